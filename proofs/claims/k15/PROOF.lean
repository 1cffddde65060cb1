import PyProof.Rows.All
import Wide.All
import OpenK.AllK
import Wide.FinOn
import HandS.ForMost
import HandS.ForExc
import HandS.TupAny
import HandS.TupMul
import HandS.Wide
import HandS.Gcd
import HandS.IsInst
import HandS.ExcIs
import HandS.Conv
import KE.DataEq
import KE.DataMinMax
import KE.LtData
import KE.SortData
import PySem.Challenge.RW_joinhall_k15_bounds_in_whole_numbers
import KE.DatumOrd
import KE.DatumMore
set_option Elab.async false
set_option linter.all false
set_option maxRecDepth 100000
set_option maxHeartbeats 2000000
/-! Own layer: the defs read over pure data and a small store of changing objects. -/
namespace Jh
open PySem PySem.Spec PyProof.Rows L2

/-! ### data, cells, the store -/
abbrev Frg := PySem.W.Frag
mutual
inductive Dq (K : Frg) (H : Hp) : V → PyData → Prop
  | non : Dq K H .non .none
  | bl (b : Bool) : Dq K H (.bl b) (.bool b)
  | int (i : Int) : Dq K H (.int i) (.int i)
  | str (x : Str) : Dq K H (.str x) (.str x)
  | lst {a : Addr} {xs : List V} {ds : List PyData} : H a = some (.lst xs) → DqAll K H xs ds → Dq K H (.ref a) (.list ds)
  | tup {a : Addr} {xs : List V} {ds : List PyData} : SqT K H a xs → DqAll K H xs ds → Dq K H (.ref a) (.tuple ds)
inductive DqAll (K : Frg) (H : Hp) : List V → List PyData → Prop
  | nil : DqAll K H [] []
  | cons {v : V} {vs : List V} {d : PyData} {ds : List PyData} : Dq K H v d → DqAll K H vs ds → DqAll K H (v :: vs) (d :: ds)
end

def Ex (H H' : Hp) : Prop := ∀ a o, H a = some o → H' a = some o
theorem Ex.refl (H : Hp) : Ex H H := fun _ _ h => h
theorem Ex.trans {H H1 H2 : Hp} (a : Ex H H1) (b : Ex H1 H2) : Ex H H2 := fun x o h => b x o (a x o h)
theorem Ex.upd {H : Hp} {p : Addr} {o : HO} (h : H p = none) : Ex H (upd H p o) := fun a u e => by
  rw [upd_ne (ne_of_none e h)]; exact e
theorem ex_rd {H H' : Hp} {a : Addr} {u : HO} (e : Ex H H') (h : Rd H a u) : Rd H' a u := by
  rcases h with h | ⟨o, h⟩
  · exact .inl (e a _ h)
  · exact .inr ⟨o, e a _ h⟩
theorem ex_t {K : Frg} {H H' : Hp} {a : Addr} {xs : List V} (e : Ex H H') (h : SqT K H a xs) : SqT K H' a xs := by
  rcases h with h | h
  · exact .inl (ex_rd e h)
  · exact .inr h
theorem ex_l {K : Frg} {H H' : Hp} {a : Addr} {xs : List V} (e : Ex H H') (h : SqL K H a xs) : SqL K H' a xs := by
  rcases h with h | h
  · exact .inl (ex_rd e h)
  · exact .inr h
mutual
theorem Dq.mono {K : Frg} {H H' : Hp} (e : Ex H H') : ∀ {v : V} {d : PyData}, Dq K H v d → Dq K H' v d
  | _, _, .non => .non
  | _, _, .bl b => .bl b
  | _, _, .int i => .int i
  | _, _, .str x => .str x
  | _, _, .lst h hs => .lst (e _ _ h) (DqAll.mono e hs)
  | _, _, .tup h hs => .tup (ex_t e h) (DqAll.mono e hs)
theorem DqAll.mono {K : Frg} {H H' : Hp} (e : Ex H H') : ∀ {vs : List V} {ds : List PyData}, DqAll K H vs ds → DqAll K H' vs ds
  | _, _, .nil => .nil
  | _, _, .cons h hs => .cons (Dq.mono e h) (DqAll.mono e hs)
end
mutual
theorem Dq.dp {K : Frg} {H : Hp} : ∀ {v : V} {d : PyData}, Dq K H v d → Dp K H v d
  | _, _, .non => .non
  | _, _, .bl b => .bl b
  | _, _, .int i => .int i
  | _, _, .str x => .str x
  | _, _, .lst h hs => .lst (SqL.of h) (DqAll.dp hs)
  | _, _, .tup h hs => .tup h (DqAll.dp hs)
theorem DqAll.dp {K : Frg} {H : Hp} : ∀ {vs : List V} {ds : List PyData}, DqAll K H vs ds → DpAll K H vs ds
  | _, _, .nil => .nil
  | _, _, .cons h hs => .cons (Dq.dp h) (DqAll.dp hs)
end
mutual
theorem Dq.plain {K : Frg} {H : Hp} : ∀ {v : V} {d : PyData}, Dq K H v d → d.plain = true
  | _, _, .non => by rw [PyData.plain]
  | _, _, .bl b => by rw [PyData.plain]
  | _, _, .int i => by rw [PyData.plain]
  | _, _, .str x => by rw [PyData.plain]
  | _, _, .lst h hs => by rw [PyData.plain]; exact DqAll.plain hs
  | _, _, .tup h hs => by rw [PyData.plain]; exact DqAll.plain hs
theorem DqAll.plain {K : Frg} {H : Hp} : ∀ {vs : List V} {ds : List PyData}, DqAll K H vs ds → PyData.plainAll ds = true
  | _, _, .nil => by rw [PyData.plainAll]
  | _, _, .cons h hs => by rw [PyData.plainAll, Dq.plain h, DqAll.plain hs]; rfl
end
theorem DqAll.length {K : Frg} {H : Hp} : ∀ {vs : List V} {ds : List PyData}, DqAll K H vs ds → vs.length = ds.length
  | _, _, .nil => rfl
  | _, _, .cons _ hs => by simp [DqAll.length hs]
theorem DqAll.get {K : Frg} {H : Hp} : ∀ {vs : List V} {ds : List PyData} {i : Nat} {d : PyData}, DqAll K H vs ds → ds[i]? = some d → ∃ v, vs[i]? = some v ∧ Dq K H v d
  | _, _, _, _, .nil, e => by simp at e
  | _, _, 0, _, .cons h _, e => by simp at e; subst e; exact ⟨_, rfl, h⟩
  | _, _, i + 1, _, .cons _ hs, e => by
    obtain ⟨v, h1, h2⟩ := DqAll.get (i := i) hs (by simpa using e)
    exact ⟨v, by simpa using h1, h2⟩
theorem DqAll.getV {K : Frg} {H : Hp} : ∀ {vs : List V} {ds : List PyData} {i : Nat} {v : V}, DqAll K H vs ds → vs[i]? = some v → ∃ d, ds[i]? = some d ∧ Dq K H v d
  | _, _, _, _, .nil, e => by simp at e
  | _, _, 0, _, .cons h _, e => by simp at e; subst e; exact ⟨_, rfl, h⟩
  | _, _, i + 1, _, .cons _ hs, e => by
    obtain ⟨v, h1, h2⟩ := DqAll.getV (i := i) hs (by simpa using e)
    exact ⟨v, by simpa using h1, h2⟩
theorem DqAll.append {K : Frg} {H : Hp} : ∀ {vs ws : List V} {ds es : List PyData}, DqAll K H vs ds → DqAll K H ws es → DqAll K H (vs ++ ws) (ds ++ es)
  | _, _, _, _, .nil, h => h
  | _, _, _, _, .cons h hs, h' => .cons h (DqAll.append hs h')
theorem DqAll.drop {K : Frg} {H : Hp} : ∀ {vs : List V} {ds : List PyData} (n : Nat), DqAll K H vs ds → DqAll K H (vs.drop n) (ds.drop n)
  | _, _, 0, h => h
  | _, _, _ + 1, .nil => .nil
  | _, _, n + 1, .cons _ hs => DqAll.drop n hs
theorem DqAll.take {K : Frg} {H : Hp} : ∀ {vs : List V} {ds : List PyData} (n : Nat), DqAll K H vs ds → DqAll K H (vs.take n) (ds.take n)
  | _, _, 0, _ => .nil
  | _, _, _ + 1, .nil => .nil
  | _, _, n + 1, .cons h hs => .cons h (DqAll.take n hs)
theorem DqAll.set {K : Frg} {H : Hp} {v : V} {d : PyData} (h : Dq K H v d) : ∀ {vs : List V} {ds : List PyData} (n : Nat), DqAll K H vs ds → DqAll K H (vs.set n v) (ds.set n d)
  | _, _, _, .nil => .nil
  | _, _, 0, .cons _ hs => .cons h hs
  | _, _, n + 1, .cons h' hs => .cons h' (DqAll.set h n hs)

/-- a cell: data, a changing object (by its number), or a value left as it is -/
inductive Cl where
  | d (x : PyData) | m (j : Nat) | v (x : V) | s (ns : List Int)
/-- a changing object -/
inductive MO where
  | lst (cs : List Cl) | dct (kcs : List (Key × Cl)) | ins (C : Addr) (fs : List (Str × Cl))
abbrev En := List (Option Cl)
abbrev Sto := List MO

def ClR (K : Frg) (ad : List Addr) (H0 : Hp) : V → Cl → Prop
  | x, .d y => Dq K H0 x y
  | x, .m j => ∃ a, ad[j]? = some a ∧ x = .ref a
  | x, .v y => x = y
  | x, .s ns => ∃ a, x = .ref a ∧ SqL K H0 a (ns.map V.int)
abbrev ClRs (K : Frg) (ad : List Addr) (H0 : Hp) : List V → List Cl → Prop := Paired (ClR K ad H0)
def MoR (K : Frg) (ad : List Addr) (H0 : Hp) : HO → MO → Prop
  | .lst vs, .lst cs => ClRs K ad H0 vs cs
  | .dK kvs, .dct kcs => Paired (fun (p : Key × V) (q : Key × Cl) => p.1 = q.1 ∧ ClR K ad H0 p.2 q.2) kvs kcs
  | .ins C _ fs, .ins C' fcs => C = C' ∧ Paired (fun (p : Str × V) (q : Str × Cl) => p.1 = q.1 ∧ ClR K ad H0 p.2 q.2) fs fcs
  | _, _ => False
def SlR1 (K : Frg) (ad : List Addr) (H0 : Hp) : Option V → Option Cl → Prop
  | _, none => True
  | some x, some c => ClR K ad H0 x c
  | none, some _ => False
abbrev SlR (K : Frg) (ad : List Addr) (H0 : Hp) : L2.St → En → Prop := Paired (SlR1 K ad H0)

/-- the world: frozen data in H0, changing objects at ad -/
structure Wr (K : Frg) (ad : List Addr) (H0 H : Hp) (μ : Sto) : Prop where
  ex : Ex H0 H
  len : ad.length = μ.length
  nd : ad.Nodup
  out : ∀ a ∈ ad, H0 a = none
  at_ : ∀ (j : Nat) (a : Addr) (o : MO), ad[j]? = some a → μ[j]? = some o → ∃ ho, H a = some ho ∧ MoR K ad H0 ho o
/-- how the world grows -/
structure Gr (ad : List Addr) (H0 H : Hp) (ad' : List Addr) (H0' H' : Hp) : Prop where
  ex0 : Ex H0 H0'
  fr0 : ∀ a o, H0' a = some o → H0 a = some o ∨ H a = none
  pre : ∃ xs, ad' = ad ++ xs ∧ ∀ a ∈ xs, H a = none
  keep : ∀ a o, a ∉ ad → H a = some o → H' a = some o
  stay : ∀ a, H' a = none → H a = none

theorem Gr.refl (ad : List Addr) (H0 H : Hp) : Gr ad H0 H ad H0 H := ⟨Ex.refl _, fun _ _ h => .inl h, ⟨[], by simp, by simp⟩, fun _ _ _ h => h, fun _ h => h⟩
theorem Gr.trans {ad ad1 ad2 : List Addr} {H0 H H01 H1 H02 H2 : Hp} (a : Gr ad H0 H ad1 H01 H1) (b : Gr ad1 H01 H1 ad2 H02 H2) : Gr ad H0 H ad2 H02 H2 := by
  obtain ⟨xs, ex, hx⟩ := a.pre
  obtain ⟨ys, ey, hy⟩ := b.pre
  refine ⟨a.ex0.trans b.ex0, fun c o h => ?_, ⟨xs ++ ys, by rw [ey, ex, List.append_assoc], fun c hc => ?_⟩, fun c o hc h => ?_, fun c h => a.stay c (b.stay c h)⟩
  · rcases b.fr0 c o h with q | q
    · exact a.fr0 c o q
    · exact .inr (a.stay c q)
  · rcases List.mem_append.mp hc with q | q
    · exact hx c q
    · exact a.stay c (hy c q)
  · refine b.keep c o (fun m => ?_) (a.keep c o hc h)
    rw [ex] at m
    rcases List.mem_append.mp m with q | q
    · exact hc q
    · rw [hx c q] at h; cases h

theorem Gr.at_ {ad ad' : List Addr} {H0 H H0' H' : Hp} (g : Gr ad H0 H ad' H0' H') {j : Nat} {a : Addr} (h : ad[j]? = some a) : ad'[j]? = some a := by
  obtain ⟨xs, e, _⟩ := g.pre
  rw [e, List.getElem?_append_left (List.getElem?_eq_some_iff.mp h).1]; exact h
theorem ClR.mono {K : Frg} {ad ad' : List Addr} {H0 H0' : Hp} (hp : ∀ (j : Nat) (a : Addr), ad[j]? = some a → ad'[j]? = some a) (he : Ex H0 H0') : ∀ {x : V} {c : Cl}, ClR K ad H0 x c → ClR K ad' H0' x c
  | _, .d _, h => Dq.mono he h
  | _, .m _, ⟨a, h, e⟩ => ⟨a, hp _ _ h, e⟩
  | _, .v _, h => h
  | _, .s _, ⟨a, e, h⟩ => ⟨a, e, ex_l he h⟩
theorem Paired.imp {α β : Type} {F G : α → β → Prop} (f : ∀ a b, F a b → G a b) : ∀ {l₁ : List α} {l₂ : List β}, Paired F l₁ l₂ → Paired G l₁ l₂
  | _, _, .nil => .nil
  | _, _, .cons r t => .cons (f _ _ r) (Paired.imp f t)
theorem ClRs.mono {K : Frg} {ad ad' : List Addr} {H0 H0' : Hp} (hp : ∀ (j : Nat) (a : Addr), ad[j]? = some a → ad'[j]? = some a) (he : Ex H0 H0') {xs : List V} {cs : List Cl} (h : ClRs K ad H0 xs cs) : ClRs K ad' H0' xs cs :=
  Paired.imp (fun _ _ q => ClR.mono hp he q) h
theorem MoR.mono {K : Frg} {ad ad' : List Addr} {H0 H0' : Hp} (hp : ∀ (j : Nat) (a : Addr), ad[j]? = some a → ad'[j]? = some a) (he : Ex H0 H0') : ∀ {ho : HO} {o : MO}, MoR K ad H0 ho o → MoR K ad' H0' ho o := by
  intro ho o h
  cases o with
  | lst cs => cases ho <;> first | exact ClRs.mono hp he h | exact h.elim
  | dct kcs => cases ho <;> first | exact Paired.imp (fun _ _ q => ⟨q.1, ClR.mono hp he q.2⟩) h | exact h.elim
  | ins C fs => cases ho <;> first | exact ⟨h.1, Paired.imp (fun _ _ q => ⟨q.1, ClR.mono hp he q.2⟩) h.2⟩ | exact h.elim
theorem SlR1.mono {K : Frg} {ad ad' : List Addr} {H0 H0' : Hp} (hp : ∀ (j : Nat) (a : Addr), ad[j]? = some a → ad'[j]? = some a) (he : Ex H0 H0') : ∀ {ov : Option V} {oc : Option Cl}, SlR1 K ad H0 ov oc → SlR1 K ad' H0' ov oc
  | _, none, _ => trivial
  | some _, some _, h => ClR.mono hp he h
  | none, some _, h => h.elim
theorem SlR.mono {K : Frg} {ad ad' : List Addr} {H0 H0' : Hp} (hp : ∀ (j : Nat) (a : Addr), ad[j]? = some a → ad'[j]? = some a) (he : Ex H0 H0') {σ : L2.St} {ρ : En} (h : SlR K ad H0 σ ρ) : SlR K ad' H0' σ ρ :=
  Paired.imp (fun _ _ q => SlR1.mono hp he q) h
section
variable {K : Frg} {ad ad' : List Addr} {H0 H H0' H' : Hp} {μ μ' : Sto} {σ : L2.St} {ρ : En}
theorem Gr.cl (g : Gr ad H0 H ad' H0' H') {x : V} {c : Cl} (h : ClR K ad H0 x c) : ClR K ad' H0' x c := ClR.mono (fun _ _ q => g.at_ q) g.ex0 h
theorem Gr.cls (g : Gr ad H0 H ad' H0' H') {xs : List V} {cs : List Cl} (h : ClRs K ad H0 xs cs) : ClRs K ad' H0' xs cs := ClRs.mono (fun _ _ q => g.at_ q) g.ex0 h
theorem Gr.sl (g : Gr ad H0 H ad' H0' H') (h : SlR K ad H0 σ ρ) : SlR K ad' H0' σ ρ := SlR.mono (fun _ _ q => g.at_ q) g.ex0 h
theorem SlR.get : ∀ {σ : L2.St} {ρ : En} {i : Nat} {c : Cl}, SlR K ad H0 σ ρ → ρ[i]? = some (some c) → ∃ x, σ[i]? = some (some x) ∧ ClR K ad H0 x c
  | _, _, _, _, .nil, e => by simp at e
  | _, _, 0, c, .cons (a := ov) r _, e => by
    simp at e; subst e
    cases ov with
    | none => exact r.elim
    | some x => exact ⟨x, rfl, r⟩
  | _, _, i + 1, c, .cons _ t, e => by
    obtain ⟨x, h1, h2⟩ := SlR.get (i := i) t (by simpa using e)
    exact ⟨x, by simpa using h1, h2⟩
theorem Paired.set {α β : Type} {F : α → β → Prop} {a : α} {b : β} (r : F a b) : ∀ {l₁ : List α} {l₂ : List β} (i : Nat), Paired F l₁ l₂ → Paired F (l₁.set i a) (l₂.set i b)
  | _, _, _, .nil => .nil
  | _, _, 0, .cons _ t => .cons r t
  | _, _, i + 1, .cons q t => .cons q (Paired.set r i t)
theorem Paired.len {α β : Type} {F : α → β → Prop} : ∀ {l₁ : List α} {l₂ : List β}, Paired F l₁ l₂ → l₁.length = l₂.length
  | _, _, .nil => rfl
  | _, _, .cons _ t => by simp [Paired.len t]
theorem Paired.get {α β : Type} {F : α → β → Prop} : ∀ {l₁ : List α} {l₂ : List β} {i : Nat} {b : β}, Paired F l₁ l₂ → l₂[i]? = some b → ∃ a, l₁[i]? = some a ∧ F a b
  | _, _, _, _, .nil, e => by simp at e
  | _, _, 0, _, .cons r _, e => by simp at e; subst e; exact ⟨_, rfl, r⟩
  | _, _, i + 1, _, .cons _ t, e => by
    obtain ⟨a, h1, h2⟩ := Paired.get (i := i) t (by simpa using e)
    exact ⟨a, by simpa using h1, h2⟩
theorem Paired.getL {α β : Type} {F : α → β → Prop} : ∀ {l₁ : List α} {l₂ : List β} {i : Nat} {a : α}, Paired F l₁ l₂ → l₁[i]? = some a → ∃ b, l₂[i]? = some b ∧ F a b
  | _, _, _, _, .nil, e => by simp at e
  | _, _, 0, _, .cons r _, e => by simp at e; subst e; exact ⟨_, rfl, r⟩
  | _, _, i + 1, _, .cons _ t, e => by
    obtain ⟨a, h1, h2⟩ := Paired.getL (i := i) t (by simpa using e)
    exact ⟨a, by simpa using h1, h2⟩
theorem Paired.app {α β : Type} {F : α → β → Prop} : ∀ {l₁ k₁ : List α} {l₂ k₂ : List β}, Paired F l₁ l₂ → Paired F k₁ k₂ → Paired F (l₁ ++ k₁) (l₂ ++ k₂)
  | _, _, _, _, .nil, h => h
  | _, _, _, _, .cons r t, h => .cons r (Paired.app t h)
theorem Paired.tak {α β : Type} {F : α → β → Prop} : ∀ {l₁ : List α} {l₂ : List β} (n : Nat), Paired F l₁ l₂ → Paired F (l₁.take n) (l₂.take n)
  | _, _, 0, _ => .nil
  | _, _, _ + 1, .nil => .nil
  | _, _, n + 1, .cons r t => .cons r (Paired.tak n t)
theorem Paired.drp {α β : Type} {F : α → β → Prop} : ∀ {l₁ : List α} {l₂ : List β} (n : Nat), Paired F l₁ l₂ → Paired F (l₁.drop n) (l₂.drop n)
  | _, _, 0, h => h
  | _, _, _ + 1, .nil => .nil
  | _, _, n + 1, .cons _ t => Paired.drp n t
theorem clrs_dq : ∀ {xs : List V} {ds : List PyData}, ClRs K ad H0 xs (ds.map .d) → DqAll K H0 xs ds
  | _, [], h => by cases h; exact .nil
  | _, d :: ds, h => by
    cases h with
    | cons r t => exact .cons r (clrs_dq t)
theorem dq_clrs : ∀ {xs : List V} {ds : List PyData}, DqAll K H0 xs ds → ClRs K ad H0 xs (ds.map .d)
  | _, _, .nil => .nil
  | _, _, .cons h t => .cons h (dq_clrs t)

/-! ### the world's steps -/
theorem Wr.none_of (w : Wr K ad H0 H μ) {p : Addr} (h : H p = none) : p ∉ ad ∧ H0 p = none := by
  constructor
  · intro m
    obtain ⟨j, hj, e⟩ := List.getElem_of_mem m
    have hj' : j < μ.length := by rw [← w.len]; exact hj
    obtain ⟨ho, e', _⟩ := w.at_ j p μ[j] (by rw [← e]; exact List.getElem?_eq_getElem hj) (List.getElem?_eq_getElem hj')
    rw [h] at e'; cases e'
  · cases q : H0 p with
    | none => rfl
    | some o => rw [w.ex p o q] at h; cases h
/-- the heap alone grows -/
theorem Wr.more (w : Wr K ad H0 H μ) (e : Ex H H') : Wr K ad H0 H' μ :=
  ⟨w.ex.trans e, w.len, w.nd, w.out, fun j a o h1 h2 => let ⟨ho, q, r⟩ := w.at_ j a o h1 h2; ⟨ho, e _ _ q, r⟩⟩
theorem Gr.more (e : Ex H H') : Gr ad H0 H ad H0 H' := ⟨Ex.refl _, fun _ _ h => .inl h, ⟨[], by simp, by simp⟩, fun a o _ h => e a o h, fun a h => by
  cases q : H a with
  | none => rfl
  | some o => rw [e a o q] at h; cases h⟩
/-- a new frozen object -/
theorem Wr.frz (w : Wr K ad H0 H μ) {p : Addr} {o : HO} (h : H p = none) : Wr K ad (upd H0 p o) (upd H p o) μ := by
  obtain ⟨n1, n2⟩ := w.none_of h
  refine ⟨fun a u e => ?_, w.len, w.nd, fun a ha => ?_, fun j a u h1 h2 => ?_⟩
  · by_cases q : a = p
    · subst q; rw [upd_same] at e ⊢; exact e
    · rw [upd_ne q] at e ⊢; exact w.ex a u e
  · rw [upd_ne (fun (e : a = p) => n1 (e ▸ ha))]; exact w.out a ha
  · obtain ⟨ho, q, r⟩ := w.at_ j a u h1 h2
    have hp : a ≠ p := fun e => n1 (e ▸ List.mem_of_getElem? h1)
    exact ⟨ho, by rw [upd_ne hp]; exact q, MoR.mono (fun _ _ q => q) (Ex.upd n2) r⟩
theorem Gr.frz (w : Wr K ad H0 H μ) {p : Addr} {o : HO} (h : H p = none) : Gr ad H0 H ad (upd H0 p o) (upd H p o) := by
  obtain ⟨n1, n2⟩ := w.none_of h
  refine ⟨Ex.upd n2, fun a u e => ?_, ⟨[], by simp, by simp⟩, fun a u _ e => Ex.upd h a u e, fun a e => ?_⟩
  · by_cases q : a = p
    · subst q; exact .inr h
    · rw [upd_ne q] at e; exact .inl e
  · by_cases q : a = p
    · subst q; exact h
    · rw [upd_ne q] at e; exact e
/-- what stands in the heap at p, not in the frozen part nor among the changing: frozen now -/
theorem Wr.frzAt (w : Wr K ad H0 H μ) {p : Addr} {o : HO} (h : H p = some o) (h0 : H0 p = none) (hp : p ∉ ad) : Wr K ad (upd H0 p o) H μ := by
  refine ⟨fun a u e => ?_, w.len, w.nd, fun a ha => ?_, fun j a u h1 h2 => ?_⟩
  · by_cases q : a = p
    · subst q; rw [upd_same] at e; cases e; exact h
    · rw [upd_ne q] at e; exact w.ex a u e
  · rw [upd_ne (fun (e : a = p) => hp (e ▸ ha))]; exact w.out a ha
  · obtain ⟨ho, q, r⟩ := w.at_ j a u h1 h2
    exact ⟨ho, q, MoR.mono (fun _ _ q => q) (Ex.upd h0) r⟩
theorem mono_snoc {ad : List Addr} {p : Addr} : ∀ (j : Nat) (a : Addr), ad[j]? = some a → (ad ++ [p])[j]? = some a := fun j a h => by
  rw [List.getElem?_append_left (List.getElem?_eq_some_iff.mp h).1]; exact h
/-- what stands in the heap at p, not in the frozen part nor among the changing: a changing object now -/
theorem Wr.ownAt (w : Wr K ad H0 H μ) {p : Addr} {ho : HO} {o : MO} (h : H p = some ho) (h0 : H0 p = none) (hp : p ∉ ad) (r : MoR K ad H0 ho o) : Wr K (ad ++ [p]) H0 H (μ ++ [o]) := by
  refine ⟨w.ex, by simp [w.len], ?_, fun a ha => ?_, fun j a u h1 h2 => ?_⟩
  · rw [List.nodup_append]
    refine ⟨w.nd, by simp, fun a ha b hb => ?_⟩
    simp at hb; subst hb
    exact fun e => hp (e ▸ ha)
  · rcases List.mem_append.mp ha with q | q
    · exact w.out a q
    · simp at q; subst q; exact h0
  · by_cases hj : j < ad.length
    · rw [List.getElem?_append_left hj] at h1
      rw [List.getElem?_append_left (by rw [← w.len]; exact hj)] at h2
      obtain ⟨ho', q, r'⟩ := w.at_ j a u h1 h2
      exact ⟨ho', q, MoR.mono mono_snoc (Ex.refl _) r'⟩
    · have e1 : j = ad.length := by
        have := (List.getElem?_eq_some_iff.mp h1).1
        simp at this; omega
      subst e1
      rw [List.getElem?_append_right (Nat.le_refl _)] at h1
      rw [List.getElem?_append_right (by rw [w.len]; exact Nat.le_refl _), w.len] at h2
      simp at h1 h2
      subst h1 h2
      exact ⟨ho, h, MoR.mono mono_snoc (Ex.refl _) r⟩
/-- a changing object is changed -/
theorem Wr.set (w : Wr K ad H0 H μ) {j : Nat} {a : Addr} {ho : HO} {o : MO} (h : ad[j]? = some a) (r : MoR K ad H0 ho o) : Wr K ad H0 (upd H a ho) (μ.set j o) := by
  have ha : a ∈ ad := List.mem_of_getElem? h
  refine ⟨fun b u e => ?_, by simp [w.len], w.nd, w.out, fun i b u h1 h2 => ?_⟩
  · rw [upd_ne (fun q => by rw [q, w.out a ha] at e; cases e)]; exact w.ex b u e
  · by_cases hi : i = j
    · subst hi
      rw [h] at h1; cases h1
      rw [List.getElem?_set_self (by rw [← w.len]; exact (List.getElem?_eq_some_iff.mp h).1)] at h2
      cases h2
      exact ⟨ho, upd_same, r⟩
    · rw [List.getElem?_set_ne (Ne.symm hi)] at h2
      obtain ⟨ho', q, r'⟩ := w.at_ i b u h1 h2
      refine ⟨ho', ?_, r'⟩
      rw [upd_ne (fun e => hi ?_)]
      · exact q
      · subst e
        exact nodup_ix' w.nd h1 h
where
  nodup_ix' {l : List Addr} (hN : l.Nodup) {i j : Nat} {x : Addr} (a : l[i]? = some x) (b : l[j]? = some x) : i = j := by
    obtain ⟨h1, e1⟩ := List.getElem?_eq_some_iff.mp a
    obtain ⟨h2, e2⟩ := List.getElem?_eq_some_iff.mp b
    exact (List.getElem_inj hN).mp (e1.trans e2.symm)
theorem Gr.set (w : Wr K ad H0 H μ) {j : Nat} {a : Addr} {ho : HO} (h : ad[j]? = some a) : Gr ad H0 H ad H0 (upd H a ho) := by
  have ha : a ∈ ad := List.mem_of_getElem? h
  refine ⟨Ex.refl _, fun _ _ q => .inl q, ⟨[], by simp, by simp⟩, fun b u hb e => ?_, fun b e => ?_⟩
  · rw [upd_ne (fun (q : b = a) => hb (q ▸ ha))]; exact e
  · by_cases q : b = a
    · subst q; rw [upd_same] at e; cases e
    · rw [upd_ne q] at e; exact e
end
end Jh

set_option Elab.async false
set_option linter.all false
set_option maxRecDepth 100000
set_option maxHeartbeats 2000000
namespace Jh
open PySem PySem.Spec PyProof.Rows L2

/-! ### contexts by their facts -/
structure Fx where
  P : Program
  w : World
  K : Frg
  mg : Str → Option Value
  base : Heap
  N : List Str
  sc : Scope
  k : Nat
  E : XK
  fn : Str → Bool
structure Fok (F : Fx) (X : Cx) : Prop where
  prog : X.prog = F.P
  w : X.w = F.w
  K : X.K = F.K
  mg : X.mg = F.mg
  base : X.base = F.base
  N : X.N = F.N
  sc : X.env.scope = F.sc
  room : Room F.k X.A
  calm : X.calm = true
  tk : Takes X (fun cls d _ H => F.E cls d H)
  po : PassesOwn (model X.prog X.w) X.A X.env X.xe
  fn : X.fn = F.fn

/-! ### the abstract readings -/
abbrev Er := Addr → Sto → Prop
abbrev AX := Er → En → Sto → (Cl → Sto → Prop) → Prop
abbrev AT := Er → En → Sto → (Bool → Sto → Prop) → Prop
abbrev AA := Er → En → Sto → (List Cl → Sto → Prop) → Prop
abbrev AO := Er → En → Sto → (Option Int → Sto → Prop) → Prop

def ErL (F : Fx) (ad : List Addr) (H0 H : Hp) (er : Er) : Prop := ∀ C μ' ad' H0' H', Gr ad H0 H ad' H0' H' → Wr F.K ad' H0' H' μ' → er C μ' → F.E (.ref C) none H'
theorem ErL.step {F : Fx} {ad ad' : List Addr} {H0 H H0' H' : Hp} {er : Er} (h : ErL F ad H0 H er) (g : Gr ad H0 H ad' H0' H') : ErL F ad' H0' H' er := fun C μ' ad'' H0'' H'' g' w e => h C μ' ad'' H0'' H'' (g.trans g') w e

def Snd (F : Fx) (te : TE) (a : AX) : Prop := ∀ (ad : List Addr) (H0 H : Hp) (σ : L2.St) (ρ : En) (μ : Sto) (er : Er) (Q : Cl → Sto → Prop) (R : VK), Wr F.K ad H0 H μ → SlR F.K ad H0 σ ρ → ErL F ad H0 H er → a er ρ μ Q →
  (∀ v c μ' ad' H0' H', Gr ad H0 H ad' H0' H' → Wr F.K ad' H0' H' μ' → ClR F.K ad' H0' v c → Q c μ' → R v H') → te σ H R
def SndT (F : Fx) (tt : TT) (a : AT) : Prop := ∀ (ad : List Addr) (H0 H : Hp) (σ : L2.St) (ρ : En) (μ : Sto) (er : Er) (Q : Bool → Sto → Prop) (R : Bool → Hp → Prop), Wr F.K ad H0 H μ → SlR F.K ad H0 σ ρ → ErL F ad H0 H er → a er ρ μ Q →
  (∀ b μ' ad' H0' H', Gr ad H0 H ad' H0' H' → Wr F.K ad' H0' H' μ' → Q b μ' → R b H') → tt σ H R
def SndA (F : Fx) (ta : TA) (a : AA) : Prop := ∀ (ad : List Addr) (H0 H : Hp) (σ : L2.St) (ρ : En) (μ : Sto) (er : Er) (Q : List Cl → Sto → Prop) (R : List V → Hp → Prop), Wr F.K ad H0 H μ → SlR F.K ad H0 σ ρ → ErL F ad H0 H er → a er ρ μ Q →
  (∀ vs cs μ' ad' H0' H', Gr ad H0 H ad' H0' H' → Wr F.K ad' H0' H' μ' → ClRs F.K ad' H0' vs cs → Q cs μ' → R vs H') → ta σ H R
def SndO (F : Fx) (to : TO) (a : AO) : Prop := ∀ (ad : List Addr) (H0 H : Hp) (σ : L2.St) (ρ : En) (μ : Sto) (er : Er) (Q : Option Int → Sto → Prop) (R : Option Int → Hp → Prop), Wr F.K ad H0 H μ → SlR F.K ad H0 σ ρ → ErL F ad H0 H er → a er ρ μ Q →
  (∀ o μ' ad' H0' H', Gr ad H0 H ad' H0' H' → Wr F.K ad' H0' H' μ' → Q o μ' → R o H') → to σ H R
/-- a new list: not yet frozen, not yet a changing object -/
def SndL (F : Fx) (te : TE) (a : AA) : Prop := ∀ (ad : List Addr) (H0 H : Hp) (σ : L2.St) (ρ : En) (μ : Sto) (er : Er) (Q : List Cl → Sto → Prop) (R : VK), Wr F.K ad H0 H μ → SlR F.K ad H0 σ ρ → ErL F ad H0 H er → a er ρ μ Q →
  (∀ p vs cs μ' ad' H0' H', Gr ad H0 H ad' H0' H' → Wr F.K ad' H0' H' μ' → H p = none → H' p = some (.lst vs) → H0' p = none → p ∉ ad' → ClRs F.K ad' H0' vs cs → Q cs μ' → R (.ref p) H') → te σ H R

structure AE (F : Fx) (e : Expr) (a : AX) : Prop where
  ex : ∃ te, (∀ X, Fok F X → PE X e te) ∧ Snd F te a
structure ATs (F : Fx) (e : Expr) (a : AT) : Prop where
  ex : ∃ te, (∀ X, Fok F X → PT X e te) ∧ SndT F te a
structure AWs (F : Fx) (e : Expr) (a : AT) : Prop where
  ex : ∃ te, (∀ X, Fok F X → PW X e te) ∧ SndT F te a
structure AAs (F : Fx) (es : List Expr) (a : AA) : Prop where
  ex : ∃ te, (∀ X, Fok F X → PA X es te) ∧ SndA F te a
structure AOs (F : Fx) (e : Option Expr) (a : AO) : Prop where
  ex : ∃ te, (∀ X, Fok F X → PO X e te) ∧ SndO F te a
structure AL (F : Fx) (e : Expr) (a : AA) : Prop where
  ex : ∃ te, (∀ X, Fok F X → PE X e te) ∧ SndL F te a

/-- what the store says of a cell that is a list (a tuple too) -/
def cellsOf (c : Cl) (μ : Sto) : Option (List Cl) := match c with
  | .d (.list ds) => some (ds.map .d)
  | .d (.tuple ds) => some (ds.map .d)
  | .s ns => some (ns.map fun i => .d (.int i))
  | .m j => (match μ[j]? with | some (.lst cs) => some cs | _ => none)
  | _ => none
def listOf (c : Cl) (μ : Sto) : Option (List Cl) := match c with
  | .d (.list ds) => some (ds.map .d)
  | .m j => (match μ[j]? with | some (.lst cs) => some cs | _ => none)
  | _ => none

section
variable {F : Fx} {e a b c : Expr} {A B C : AX} {pos : Pos}

/-! ### names and constants -/
def aVar (i : Nat) : AX := fun _ ρ μ Q => match ρ[i]? with
  | some (some c) => Q c μ
  | _ => False
theorem ae_var (i : Nat) {x : Str} (hN : F.N[i]? = some x) (hv : Vis F.sc x) (hd : (x == ("__debug__" : Str)) = false) (hcd : (x == ("__classdict__" : Str)) = false) : AE F (.Name x pos) (aVar i) := by
  refine ⟨tVar i, fun X h => pe_var (by rw [h.N]; exact hN) (by rw [h.sc]; exact hv) hd hcd, fun ad H0 H σ ρ μ er Q R w s el h k => ?_⟩
  unfold aVar at h
  split at h
  · rename_i c hc
    obtain ⟨x, h1, h2⟩ := SlR.get s hc
    exact ⟨x, h1, k x c μ ad H0 H (Gr.refl _ _ _) w h2 h⟩
  · exact h.elim
def aC (d : PyData) : AX := fun _ _ μ Q => Q (.d d) μ
theorem snd_c {v : V} {d : PyData} (hd : ∀ H, Dq F.K H v d) : Snd F (tC v) (aC d) := fun ad H0 H _ _ μ _ _ _ w _ _ h k => k v (.d d) μ ad H0 H (Gr.refl _ _ _) w (hd H0) h
theorem ae_int {i j} : AE F (.Constant (.int i) j pos) (aC (.int i)) := ⟨_, fun _ _ => pe_int, snd_c fun _ => .int i⟩
theorem ae_str {x j} : AE F (.Constant (.str x) j pos) (aC (.str x)) := ⟨_, fun _ _ => pe_str, snd_c fun _ => .str x⟩
theorem ae_bl {x j} : AE F (.Constant (.bool x) j pos) (aC (.bool x)) := ⟨_, fun _ _ => pe_bl, snd_c fun _ => .bl x⟩
theorem ae_non {j} : AE F (.Constant .none j pos) (aC .none) := ⟨_, fun _ _ => pe_non, snd_c fun _ => .non⟩
/-- a module's constant -/
def GlF (F : Fx) (x : Str) : Prop := F.sc.names.lookup x = some .globalImplicit
theorem gl_of {X : Cx} {x : Str} (h : Fok F X) (g : GlF F x) : Gl X x := by
  show X.env.scope.names.lookup x = _
  rw [h.sc]; exact g
theorem ae_glob {x : Str} {v : V} {u : Value} {d : PyData} (hg : GlF F x) (hm : F.mg x = some u) (r : RelV v u) (hd : ∀ H, Dq F.K H v d) (h1 : (x == ("__debug__" : Str)) = false) : AE F (.Name x pos) (aC d) :=
  ⟨_, fun X h => pe_glob (gl_of h hg) (by rw [h.mg]; exact hm) r h1, snd_c hd⟩

/-! ### operators by values -/
abbrev F2 := Cl → Cl → Sto → (Cl → Sto → Prop) → Prop
def SndOp (F : Fx) (r : R2) (f : F2) : Prop := ∀ (ad : List Addr) (H0 H : Hp) (x y : V) (c1 c2 : Cl) (μ : Sto) (Q : Cl → Sto → Prop) (R : VK), Wr F.K ad H0 H μ → ClR F.K ad H0 x c1 → ClR F.K ad H0 y c2 → f c1 c2 μ Q →
  (∀ v c μ' ad' H0' H', Gr ad H0 H ad' H0' H' → Wr F.K ad' H0' H' μ' → ClR F.K ad' H0' v c → Q c μ' → R v H') → r x y H R
def aOp (f : F2) (a b : AX) : AX := fun er ρ μ Q => a er ρ μ fun x μ1 => b er ρ μ1 fun y μ2 => f x y μ2 Q
theorem snd_op {r : R2} {f : F2} {ta tb : TE} (hs : SndOp F r f) (ha : Snd F ta A) (hb : Snd F tb B) : Snd F (tOp r ta tb) (aOp f A B) := by
  intro ad H0 H σ ρ μ er Q R w s el h k
  refine ha ad H0 H σ ρ μ er _ _ w s el h fun v c μ1 ad1 H01 H1 g1 w1 r1 h1 => ?_
  refine hb ad1 H01 H1 σ ρ μ1 er _ _ w1 (g1.sl s) (el.step g1) h1 fun v2 c2 μ2 ad2 H02 H2 g2 w2 r2 h2 => ?_
  exact hs ad2 H02 H2 v v2 c c2 μ2 Q R w2 (g2.cl r1) r2 h2 fun v3 c3 μ3 ad3 H03 H3 g3 w3 r3 h3 => k v3 c3 μ3 ad3 H03 H3 ((g1.trans g2).trans g3) w3 r3 h3
theorem ae_op {op : Operator} {r : R2} {f : F2} (ho : ∀ X, Fok F X → OpR X (binaryOp op) r) (hs : SndOp F r f) (ha : AE F a A) (hb : AE F b B) : AE F (.BinOp a op b pos) (aOp f A B) := by
  obtain ⟨ta, pa, sa⟩ := ha
  obtain ⟨tb, pb, sb⟩ := hb
  exact ⟨_, fun X h => pe_op (ho X h) (pa X h) (pb X h), snd_op hs sa sb⟩
theorem ae_cmp {op : CmpOp} {r : R2} {f : F2} (ho : ∀ X, Fok F X → OpR X (compareOp op) r) (hs : SndOp F r f) (ha : AE F a A) (hb : AE F b B) (hm : behindInMarks op b = false) : AE F (.Compare a [op] [b] pos) (aOp f A B) := by
  obtain ⟨ta, pa, sa⟩ := ha
  obtain ⟨tb, pb, sb⟩ := hb
  exact ⟨_, fun X h => pe_cmpR (ho X h) (pa X h) (pb X h) hm, snd_op hs sa sb⟩
/-- a value that is True or False, as a test -/
def aTest (a : AX) : AT := fun er ρ μ Q => a er ρ μ fun c μ1 => match c with
  | .d (.bool k) => Q k μ1
  | _ => False
theorem snd_test {ta : TE} (ha : Snd F ta A) : SndT F (fun σ H Q => ta σ H fun x H' => ∃ k, x = .bl k ∧ Q k H') (aTest A) := by
  intro ad H0 H σ ρ μ er Q R w s el h k
  refine ha ad H0 H σ ρ μ er _ _ w s el h fun v c μ1 ad1 H01 H1 g1 w1 r1 h1 => ?_
  split at h1
  · cases r1
    exact ⟨_, rfl, k _ μ1 ad1 H01 H1 g1 w1 h1⟩
  · exact h1.elim
theorem at_cmp {op : CmpOp} {r : R2} {f : F2} (ho : ∀ X, Fok F X → OpR X (compareOp op) r) (hs : SndOp F r f) (ha : AE F a A) (hb : AE F b B) (hm : behindInMarks op b = false) : ATs F (.Compare a [op] [b] pos) (aTest (aOp f A B)) := by
  obtain ⟨ta, pa, sa⟩ := ha
  obtain ⟨tb, pb, sb⟩ := hb
  exact ⟨_, fun X h => pt_cmpR (ho X h) (pa X h) (pb X h) hm, snd_test (snd_op hs sa sb)⟩
theorem at_val (ha : AE F e A) (he : ∀ (X : Cx) (whole : Sem Value), isTrue e X.env whole = (do let v ← whole; standAt e.pos; holding [v] (truthy v))) : ATs F e (aTest A) := by
  obtain ⟨ta, pa, sa⟩ := ha
  exact ⟨_, fun X h => pt_val (pa X h) (he X), snd_test sa⟩
/-- a op b op' c -/
def aChain (f f' : F2) (a b c : AX) : AX := fun er ρ μ Q => a er ρ μ fun x μ1 => b er ρ μ1 fun y μ2 => f x y μ2 fun z μ3 => match z with
  | .d (.bool true) => c er ρ μ3 fun u μ4 => f' y u μ4 Q
  | .d (.bool false) => Q (.d (.bool false)) μ3
  | _ => False
theorem snd_chain {r r' : R2} {f f' : F2} {ta tb tc : TE} (hs : SndOp F r f) (hs' : SndOp F r' f') (ha : Snd F ta A) (hb : Snd F tb B) (hc : Snd F tc C) : Snd F (tChain r r' ta tb tc) (aChain f f' A B C) := by
  intro ad H0 H σ ρ μ er Q R w s el h k
  refine ha ad H0 H σ ρ μ er _ _ w s el h fun v c μ1 ad1 H01 H1 g1 w1 r1 h1 => ?_
  refine hb ad1 H01 H1 σ ρ μ1 er _ _ w1 (g1.sl s) (el.step g1) h1 fun v2 c2 μ2 ad2 H02 H2 g2 w2 r2 h2 => ?_
  refine hs ad2 H02 H2 v v2 c c2 μ2 _ _ w2 (g2.cl r1) r2 h2 fun v3 c3 μ3 ad3 H03 H3 g3 w3 r3 h3 => ?_
  split at h3
  · cases r3
    refine ⟨true, rfl, ?_⟩
    rw [if_pos rfl]
    refine hc ad3 H03 H3 σ ρ μ3 er _ _ w3 (((g1.trans g2).trans g3).sl s) (el.step ((g1.trans g2).trans g3)) h3 fun v4 c4 μ4 ad4 H04 H4 g4 w4 r4 h4 => ?_
    exact hs' ad4 H04 H4 v2 v4 c2 c4 μ4 Q R w4 ((g3.trans g4).cl r2) r4 h4 fun v5 c5 μ5 ad5 H05 H5 g5 w5 r5 h5 => k v5 c5 μ5 ad5 H05 H5 ((((g1.trans g2).trans g3).trans g4).trans g5) w5 r5 h5
  · cases r3
    refine ⟨false, rfl, ?_⟩
    rw [if_neg Bool.false_ne_true]
    exact k (.bl false) (.d (.bool false)) μ3 ad3 H03 H3 ((g1.trans g2).trans g3) w3 (Dq.bl false) h3
  · exact h3.elim
theorem ae_chain {op op' : CmpOp} {r r' : R2} {f f' : F2} (ho : ∀ X, Fok F X → OpR X (compareOp op) r) (ho' : ∀ X, Fok F X → OpR X (compareOp op') r') (hs : SndOp F r f) (hs' : SndOp F r' f') (ha : AE F a A) (hb : AE F b B) (hc : AE F c C)
    (hm : lastMarks [op, op'] [b, c] = false) : AE F (.Compare a [op, op'] [b, c] pos) (aChain f f' A B C) := by
  obtain ⟨ta, pa, sa⟩ := ha
  obtain ⟨tb, pb, sb⟩ := hb
  obtain ⟨tc, pc, sc⟩ := hc
  exact ⟨_, fun X h => pe_chain (ho X h) (ho' X h) (pa X h) (pb X h) (pc X h) hm, snd_chain hs hs' sa sb sc⟩
theorem at_chain {op op' : CmpOp} {r r' : R2} {f f' : F2} (ho : ∀ X, Fok F X → OpR X (compareOp op) r) (ho' : ∀ X, Fok F X → OpR X (compareOp op') r') (hs : SndOp F r f) (hs' : SndOp F r' f') (ha : AE F a A) (hb : AE F b B) (hc : AE F c C)
    (hm : lastMarks [op, op'] [b, c] = false) : ATs F (.Compare a [op, op'] [b, c] pos) (aTest (aChain f f' A B C)) := by
  obtain ⟨ta, pa, sa⟩ := ha
  obtain ⟨tb, pb, sb⟩ := hb
  obtain ⟨tc, pc, sc⟩ := hc
  exact ⟨_, fun X h => pt_chain (ho X h) (ho' X h) (pa X h) (pb X h) (pc X h) hm, snd_test (snd_chain hs hs' sa sb sc)⟩
/-! ### and, or, not -/
variable {TA TB : AT} {rest : List Expr}
def aAnd (t u : AT) : AT := fun er ρ μ Q => t er ρ μ fun k μ1 => match k with
  | true => u er ρ μ1 Q
  | false => Q false μ1
def aOr (t u : AT) : AT := fun er ρ μ Q => t er ρ μ fun k μ1 => match k with
  | true => Q true μ1
  | false => u er ρ μ1 Q
def aNot (t : AT) : AT := fun er ρ μ Q => t er ρ μ fun k μ1 => Q (!k) μ1
theorem AWs.pt (h : AWs F e TA) : ATs F e TA := by
  obtain ⟨t, p, s⟩ := h
  exact ⟨t, fun X h => (p X h).pt, s⟩
theorem aw_and1 (h : ATs F a TA) : AWs F (.BoolOp .And [a] pos) TA := by
  obtain ⟨t, p, s⟩ := h
  exact ⟨t, fun X h => pw_and1 (p X h), s⟩
theorem aw_or1 (h : ATs F a TA) : AWs F (.BoolOp .Or [a] pos) TA := by
  obtain ⟨t, p, s⟩ := h
  exact ⟨t, fun X h => pw_or1 (p X h), s⟩
theorem aw_and (h1 : ATs F a TA) (h2 : AWs F (.BoolOp .And (b :: rest) pos) TB) : AWs F (.BoolOp .And (a :: b :: rest) pos) (aAnd TA TB) := by
  obtain ⟨t, p, s⟩ := h1
  obtain ⟨t2, p2, s2⟩ := h2
  refine ⟨_, fun X h => pw_and (p X h) (p2 X h), fun ad H0 H σ ρ μ er Q R w sl el h k => ?_⟩
  refine s ad H0 H σ ρ μ er _ _ w sl el h fun kb μ1 ad1 H01 H1 g1 w1 h1 => ?_
  cases kb with
  | true =>
    show t2 σ H1 R
    exact s2 ad1 H01 H1 σ ρ μ1 er Q R w1 (g1.sl sl) (el.step g1) h1 fun b2 μ2 ad2 H02 H2 g2 w2 h2 => k b2 μ2 ad2 H02 H2 (g1.trans g2) w2 h2
  | false =>
    show R false H1
    exact k false μ1 ad1 H01 H1 g1 w1 h1
theorem aw_or (h1 : ATs F a TA) (h2 : AWs F (.BoolOp .Or (b :: rest) pos) TB) : AWs F (.BoolOp .Or (a :: b :: rest) pos) (aOr TA TB) := by
  obtain ⟨t, p, s⟩ := h1
  obtain ⟨t2, p2, s2⟩ := h2
  refine ⟨_, fun X h => pw_or (p X h) (p2 X h), fun ad H0 H σ ρ μ er Q R w sl el h k => ?_⟩
  refine s ad H0 H σ ρ μ er _ _ w sl el h fun kb μ1 ad1 H01 H1 g1 w1 h1 => ?_
  cases kb with
  | true =>
    show R true H1
    exact k true μ1 ad1 H01 H1 g1 w1 h1
  | false =>
    show t2 σ H1 R
    exact s2 ad1 H01 H1 σ ρ μ1 er Q R w1 (g1.sl sl) (el.step g1) h1 fun b2 μ2 ad2 H02 H2 g2 w2 h2 => k b2 μ2 ad2 H02 H2 (g1.trans g2) w2 h2
theorem at_not (h1 : ATs F a TA) : ATs F (.UnaryOp .Not a pos) (aNot TA) := by
  obtain ⟨t, p, s⟩ := h1
  refine ⟨_, fun X h => pt_not (p X h), fun ad H0 H σ ρ μ er Q R w sl el h k => ?_⟩
  exact s ad H0 H σ ρ μ er _ _ w sl el h fun kb μ1 ad1 H01 H1 g1 w1 h1 => k _ μ1 ad1 H01 H1 g1 w1 h1
/-- as values -/
def aAndV (a b : AX) : AX := fun er ρ μ Q => a er ρ μ fun c μ1 => match c with
  | .d (.bool true) => b er ρ μ1 Q
  | .d (.bool false) => Q (.d (.bool false)) μ1
  | _ => False
def aOrV (a b : AX) : AX := fun er ρ μ Q => a er ρ μ fun c μ1 => match c with
  | .d (.bool true) => Q (.d (.bool true)) μ1
  | .d (.bool false) => b er ρ μ1 Q
  | _ => False
theorem ae_one {op : BoolOp} (h : AE F a A) : AE F (.BoolOp op [a] pos) A := by
  obtain ⟨t, p, s⟩ := h
  exact ⟨t, fun X h => pe_one (p X h), s⟩
theorem ae_and (h1 : AE F a A) (h2 : AE F (.BoolOp .And (b :: rest) pos) B) : AE F (.BoolOp .And (a :: b :: rest) pos) (aAndV A B) := by
  obtain ⟨t, p, s⟩ := h1
  obtain ⟨t2, p2, s2⟩ := h2
  refine ⟨_, fun X h => pe_and (p X h) (p2 X h), fun ad H0 H σ ρ μ er Q R w sl el h k => ?_⟩
  refine s ad H0 H σ ρ μ er _ _ w sl el h fun v c μ1 ad1 H01 H1 g1 w1 r1 h1 => ?_
  split at h1
  · cases r1
    refine ⟨true, rfl, ?_⟩
    show t2 σ H1 R
    exact s2 ad1 H01 H1 σ ρ μ1 er Q R w1 (g1.sl sl) (el.step g1) h1 fun v2 b2 μ2 ad2 H02 H2 g2 w2 r2 h2 => k v2 b2 μ2 ad2 H02 H2 (g1.trans g2) w2 r2 h2
  · cases r1
    refine ⟨false, rfl, ?_⟩
    show R (.bl false) H1
    exact k _ (.d (.bool false)) μ1 ad1 H01 H1 g1 w1 (Dq.bl false) h1
  · exact h1.elim
theorem ae_or (h1 : AE F a A) (h2 : AE F (.BoolOp .Or (b :: rest) pos) B) : AE F (.BoolOp .Or (a :: b :: rest) pos) (aOrV A B) := by
  obtain ⟨t, p, s⟩ := h1
  obtain ⟨t2, p2, s2⟩ := h2
  refine ⟨_, fun X h => pe_or (p X h) (p2 X h), fun ad H0 H σ ρ μ er Q R w sl el h k => ?_⟩
  refine s ad H0 H σ ρ μ er _ _ w sl el h fun v c μ1 ad1 H01 H1 g1 w1 r1 h1 => ?_
  split at h1
  · cases r1
    refine ⟨true, rfl, ?_⟩
    show R (.bl true) H1
    exact k _ (.d (.bool true)) μ1 ad1 H01 H1 g1 w1 (Dq.bl true) h1
  · cases r1
    refine ⟨false, rfl, ?_⟩
    show t2 σ H1 R
    exact s2 ad1 H01 H1 σ ρ μ1 er Q R w1 (g1.sl sl) (el.step g1) h1 fun v2 b2 μ2 ad2 H02 H2 g2 w2 r2 h2 => k v2 b2 μ2 ad2 H02 H2 (g1.trans g2) w2 r2 h2
  · exact h1.elim
def aIf (t : AT) (a b : AX) : AX := fun er ρ μ Q => t er ρ μ fun k μ1 => match k with
  | true => a er ρ μ1 Q
  | false => b er ρ μ1 Q
theorem ae_if (ht : ATs F c TA) (h1 : AE F a A) (h2 : AE F b B) : AE F (.IfExp c a b pos) (aIf TA A B) := by
  obtain ⟨t, p, s⟩ := ht
  obtain ⟨t1, p1, s1⟩ := h1
  obtain ⟨t2, p2, s2⟩ := h2
  refine ⟨_, fun X h => pe_ifExp (p X h) (p1 X h) (p2 X h), fun ad H0 H σ ρ μ er Q R w sl el h k => ?_⟩
  refine s ad H0 H σ ρ μ er _ _ w sl el h fun kb μ1 ad1 H01 H1 g1 w1 h1 => ?_
  cases kb with
  | true =>
    show t1 σ H1 R
    exact s1 ad1 H01 H1 σ ρ μ1 er Q R w1 (g1.sl sl) (el.step g1) h1 fun v2 b2 μ2 ad2 H02 H2 g2 w2 r2 h2 => k v2 b2 μ2 ad2 H02 H2 (g1.trans g2) w2 r2 h2
  | false =>
    show t2 σ H1 R
    exact s2 ad1 H01 H1 σ ρ μ1 er Q R w1 (g1.sl sl) (el.step g1) h1 fun v2 b2 μ2 ad2 H02 H2 g2 w2 r2 h2 => k v2 b2 μ2 ad2 H02 H2 (g1.trans g2) w2 r2 h2
/-- -a -/
def aNeg (a : AX) : AX := fun er ρ μ Q => a er ρ μ fun c μ1 => match c with
  | .d (.int i) => Q (.d (.int (-i))) μ1
  | _ => False
theorem ae_neg (h1 : AE F a A) : AE F (.UnaryOp .USub a pos) (aNeg A) := by
  obtain ⟨t, p, s⟩ := h1
  refine ⟨_, fun X h => pe_un un_neg (p X h), fun ad H0 H σ ρ μ er Q R w sl el h k => ?_⟩
  refine s ad H0 H σ ρ μ er _ _ w sl el h fun v c μ1 ad1 H01 H1 g1 w1 r1 h1 => ?_
  split at h1
  · cases r1
    exact ⟨_, rfl, k (.int _) (.d (.int _)) μ1 ad1 H01 H1 g1 w1 (Dq.int _) h1⟩
  · exact h1.elim

/-! ### arguments, tuples, lists -/
variable {es : List Expr} {AR : AA}
def aNil : AA := fun _ _ μ Q => Q [] μ
def aCons (a : AX) (r : AA) : AA := fun er ρ μ Q => a er ρ μ fun c μ1 => r er ρ μ1 fun cs μ2 => Q (c :: cs) μ2
theorem aa_nil : AAs F [] aNil := ⟨_, fun _ _ => pa_nil, fun ad H0 H _ _ μ _ _ _ w _ _ h k => k [] [] μ ad H0 H (Gr.refl _ _ _) w .nil h⟩
theorem aa_cons (h1 : AE F e A) (h2 : AAs F es AR) (hs : ∀ X : Cx, starEach (e :: es) X.env = (false, eval e X.env) :: starEach es X.env := by intro _; rfl) : AAs F (e :: es) (aCons A AR) := by
  obtain ⟨t, p, s⟩ := h1
  obtain ⟨t2, p2, s2⟩ := h2
  refine ⟨_, fun X h => pa_cons (p X h) (p2 X h) (hs X), fun ad H0 H σ ρ μ er Q R w sl el h k => ?_⟩
  refine s ad H0 H σ ρ μ er _ _ w sl el h fun v c μ1 ad1 H01 H1 g1 w1 r1 h1 => ?_
  exact s2 ad1 H01 H1 σ ρ μ1 er _ _ w1 (g1.sl sl) (el.step g1) h1 fun vs cs μ2 ad2 H02 H2 g2 w2 r2 h2 => k (v :: vs) (c :: cs) μ2 ad2 H02 H2 (g1.trans g2) w2 (.cons (g2.cl r1) r2) h2
def allD : List Cl → Option (List PyData)
  | [] => some []
  | .d x :: r => (allD r).map (x :: ·)
  | _ :: _ => none
theorem allD_eq : ∀ {cs : List Cl} {ds : List PyData}, allD cs = some ds → cs = ds.map .d
  | [], ds, h => by simp [allD] at h; subst h; rfl
  | .d x :: r, ds, h => by
    simp only [allD, Option.map_eq_some_iff] at h
    obtain ⟨es, h1, h2⟩ := h
    subst h2
    rw [allD_eq h1]; rfl
  | .m _ :: _, _, h => by simp [allD] at h
  | .v _ :: _, _, h => by simp [allD] at h
  | .s _ :: _, _, h => by simp [allD] at h
theorem allD_map (ds : List PyData) : allD (ds.map .d) = some ds := by
  induction ds with
  | nil => rfl
  | cons d ds ih => simp [allD, ih]
def aTup (r : AA) : AX := fun er ρ μ Q => r er ρ μ fun cs μ1 => match allD cs with
  | some ds => ds.length ≤ 1000 ∧ Q (.d (.tuple ds)) μ1
  | none => False
theorem line_of {n : Nat} (h : n ≤ 1000) : n ≤ sizeLine := Nat.le_trans h (by decide)
theorem ae_tup {x1} (h1 : AAs F es AR) : AE F (.Tuple es x1 pos) (aTup AR) := by
  obtain ⟨t, p, s⟩ := h1
  refine ⟨_, fun X h => pe_tup (p X h), fun ad H0 H σ ρ μ er Q R w sl el h k => ?_⟩
  refine s ad H0 H σ ρ μ er _ _ w sl el h fun vs cs μ1 ad1 H01 H1 g1 w1 r1 h1 => ?_
  split at h1
  · rename_i ds hd
    rw [allD_eq hd] at r1
    have r2 := clrs_dq r1
    refine ⟨line_of (by rw [r2.length]; exact h1.1), fun q hq => ?_⟩
    have hq0 := (w1.none_of hq).2
    exact k (.ref q) (.d (.tuple ds)) μ1 ad1 _ _ (g1.trans (Gr.frz w1 hq)) (w1.frz hq) (Dq.tup (SqT.of upd_same) (r2.mono (Ex.upd hq0))) h1.2
  · exact h1.elim
def aLst (r : AA) : AA := fun er ρ μ Q => r er ρ μ fun cs μ1 => cs.length ≤ 1000 ∧ Q cs μ1
theorem al_lst (h1 : AAs F es AR) : AL F (.List es pos) (aLst AR) := by
  obtain ⟨t, p, s⟩ := h1
  refine ⟨_, fun X h => pe_lst (p X h), fun ad H0 H σ ρ μ er Q R w sl el h k => ?_⟩
  refine s ad H0 H σ ρ μ er _ _ w sl el h fun vs cs μ1 ad1 H01 H1 g1 w1 r1 h1 => ?_
  refine ⟨line_of (by rw [Paired.len r1]; exact h1.1), fun q hq => ?_⟩
  have n := w1.none_of hq
  exact k q vs cs μ1 ad1 H01 _ (g1.trans (Gr.more (Ex.upd hq))) (w1.more (Ex.upd hq)) (g1.stay q hq) upd_same n.2 n.1 r1 h1.2
/-- a new list, frozen -/
def aFrz (a : AA) : AX := fun er ρ μ Q => a er ρ μ fun cs μ1 => match allD cs with
  | some ds => Q (.d (.list ds)) μ1
  | none => False
theorem ae_frz {e : Expr} (h1 : AL F e AR) : AE F e (aFrz AR) := by
  obtain ⟨t, p, s⟩ := h1
  refine ⟨t, p, fun ad H0 H σ ρ μ er Q R w sl el h k => ?_⟩
  refine s ad H0 H σ ρ μ er _ _ w sl el h fun q vs cs μ1 ad1 H01 H1 g1 w1 hq hq1 hq0 hqa r1 h1 => ?_
  split at h1
  · rename_i ds hd
    rw [allD_eq hd] at r1
    refine k (.ref q) (.d (.list ds)) μ1 ad1 (upd H01 q (.lst vs)) H1 ?_ (w1.frzAt hq1 hq0 hqa) (Dq.lst upd_same ((clrs_dq r1).mono (Ex.upd hq0))) h1
    refine ⟨g1.ex0.trans (Ex.upd hq0), fun a o e => ?_, g1.pre, g1.keep, g1.stay⟩
    by_cases z : a = q
    · subst z; exact .inr hq
    · rw [upd_ne z] at e; exact g1.fr0 a o e
  · exact h1.elim
/-- a new list, a changing object -/
def aOwn (a : AA) : AX := fun er ρ μ Q => a er ρ μ fun cs μ1 => Q (.m μ1.length) (μ1 ++ [.lst cs])
theorem ae_own {e : Expr} (h1 : AL F e AR) : AE F e (aOwn AR) := by
  obtain ⟨t, p, s⟩ := h1
  refine ⟨t, p, fun ad H0 H σ ρ μ er Q R w sl el h k => ?_⟩
  refine s ad H0 H σ ρ μ er _ _ w sl el h fun q vs cs μ1 ad1 H01 H1 g1 w1 hq hq1 hq0 hqa r1 h1 => ?_
  refine k (.ref q) (.m μ1.length) (μ1 ++ [.lst cs]) (ad1 ++ [q]) H01 H1 ?_ (w1.ownAt hq1 hq0 hqa (show MoR F.K ad1 H01 (.lst vs) (.lst cs) from r1)) ⟨q, by rw [← w1.len]; simp, rfl⟩ h1
  obtain ⟨xs, ex, hx⟩ := g1.pre
  refine ⟨g1.ex0, g1.fr0, ⟨xs ++ [q], by rw [ex, List.append_assoc], fun a ha => ?_⟩, g1.keep, g1.stay⟩
  rcases List.mem_append.mp ha with z | z
  · exact hx a z
  · simp at z; subst z; exact hq
end
end Jh

set_option Elab.async false
set_option linter.all false
set_option maxRecDepth 100000
set_option maxHeartbeats 2000000
namespace Jh
open PySem PySem.Spec PyProof.Rows L2

section
variable {F : Fx}
/-! ### + - * // % ** -/
def fAdd : F2 := fun x y μ Q => match x, y with
  | .d (.int i), .d (.int j) => Q (.d (.int (i + j))) μ
  | .d (.str i), .d (.str j) => i.length + j.length ≤ 1000 ∧ Q (.d (.str (i ++ j))) μ
  | .d (.tuple xs), .d (.tuple ys) => xs.length + ys.length ≤ 1000 ∧ Q (.d (.tuple (xs ++ ys))) μ
  | _, _ => False
def rAddJ (K : Frg) : R2 := fun x y H Q => rI0 (fun i j => .int (i + j)) x y H Q ∨ ((∃ i j, x = .str i ∧ y = .str j ∧ i.length + j.length ≤ sizeLine ∧ Q (.str (i ++ j)) H) ∨ rCatA K x y H Q)
theorem op_addJ {X : Cx} (h : Fok F X) : OpR X (binaryOp .Add) (rAddJ F.K) := by
  have := OpR.or (X := X) op_add (OpR.or op_add_str op_catA)
  rw [h.K] at this; exact this
theorem snd_addJ : SndOp F (rAddJ F.K) fAdd := by
  intro ad H0 H x y c1 c2 μ Q R w r1 r2 h k
  unfold fAdd at h
  split at h
  · cases r1; cases r2
    exact .inl ⟨_, _, rfl, rfl, k (.int _) (.d (.int _)) μ ad H0 H (Gr.refl _ _ _) w (Dq.int _) h⟩
  · cases r1; cases r2
    exact .inr (.inl ⟨_, _, rfl, rfl, line_of h.1, k (.str _) (.d (.str _)) μ ad H0 H (Gr.refl _ _ _) w (Dq.str _) h.2⟩)
  · rename_i xs ys
    cases r1 with
    | tup s1 d1 =>
      cases r2 with
      | tup s2 d2 =>
        rename_i a vs b ws
        refine .inr (.inr ⟨a, b, vs, ws, rfl, rfl, ex_t w.ex s1, ex_t w.ex s2, line_of (by rw [d1.length, d2.length]; exact h.1), fun e => ?_, fun _ e => ?_, fun _ _ p hp => ?_⟩)
        · subst e
          cases d1
          exact k (.ref b) (.d (.tuple _)) μ ad H0 H (Gr.refl _ _ _) w (Dq.tup s2 d2) h.2
        · subst e
          cases d2
          rw [List.append_nil] at h
          exact k (.ref a) (.d (.tuple _)) μ ad H0 H (Gr.refl _ _ _) w (Dq.tup s1 d1) h.2
        · have n := w.none_of hp
          exact k (.ref p) (.d (.tuple _)) μ ad _ _ (Gr.frz w hp) (w.frz hp) (Dq.tup (SqT.of upd_same) ((d1.append d2).mono (Ex.upd n.2))) h.2
  · exact h.elim
def fSub : F2 := fun x y μ Q => match x, y with
  | .d (.int i), .d (.int j) => Q (.d (.int (i - j))) μ
  | _, _ => False
theorem snd_sub : SndOp F (rI0 fun i j => .int (i - j)) fSub := by
  intro ad H0 H x y c1 c2 μ Q R w r1 r2 h k
  unfold fSub at h
  split at h
  · cases r1; cases r2
    exact ⟨_, _, rfl, rfl, k (.int _) (.d (.int _)) μ ad H0 H (Gr.refl _ _ _) w (Dq.int _) h⟩
  · exact h.elim
def MulOk (i j : Int) : Prop := CMul i j ∨ CMulW i j
/-- ints -/
def fMul : F2 := fun x y μ Q => match x, y with
  | .d (.int i), .d (.int j) => MulOk i j ∧ Q (.d (.int (i * j))) μ
  | _, _ => False
def rMulJ : R2 := fun x y H Q => rI CMul (fun i j => .int (i * j)) x y H Q ∨ rI CMulW (fun i j => .int (i * j)) x y H Q
theorem op_mulJ {X : Cx} : OpR X (binaryOp .Mult) rMulJ := OpR.or op_mul op_mulW
theorem snd_mulJ : SndOp F rMulJ fMul := by
  intro ad H0 H x y c1 c2 μ Q R w r1 r2 h k
  unfold fMul at h
  split at h
  · cases r1; cases r2
    have q := k (.int _) (.d (.int _)) μ ad H0 H (Gr.refl _ _ _) w (Dq.int _) h.2
    rcases h.1 with z | z
    · exact .inl ⟨_, _, rfl, rfl, z, q⟩
    · exact .inr ⟨_, _, rfl, rfl, z, q⟩
  · exact h.elim
def fDiv : F2 := fun x y μ Q => match x, y with
  | .d (.int i), .d (.int j) => CDivW i j ∧ Q (.d (.int (i / j))) μ
  | _, _ => False
theorem snd_div : SndOp F (rI CDivW fun i j => .int (i / j)) fDiv := by
  intro ad H0 H x y c1 c2 μ Q R w r1 r2 h k
  unfold fDiv at h
  split at h
  · cases r1; cases r2
    exact ⟨_, _, rfl, rfl, h.1, k (.int _) (.d (.int _)) μ ad H0 H (Gr.refl _ _ _) w (Dq.int _) h.2⟩
  · exact h.elim
def fMod : F2 := fun x y μ Q => match x, y with
  | .d (.int i), .d (.int j) => 0 < j ∧ Q (.d (.int (i % j))) μ
  | _, _ => False
theorem snd_mod : SndOp F (rI (fun _ j => 0 < j) fun i j => .int (i % j)) fMod := by
  intro ad H0 H x y c1 c2 μ Q R w r1 r2 h k
  unfold fMod at h
  split at h
  · cases r1; cases r2
    exact ⟨_, _, rfl, rfl, h.1, k (.int _) (.d (.int _)) μ ad H0 H (Gr.refl _ _ _) w (Dq.int _) h.2⟩
  · exact h.elim
def fPow : F2 := fun x y μ Q => match x, y with
  | .d (.int i), .d (.int j) => CPow i j ∧ Q (.d (.int (i ^ j.toNat))) μ
  | _, _ => False
theorem snd_pow : SndOp F (rI CPow fun i j => .int (i ^ j.toNat)) fPow := by
  intro ad H0 H x y c1 c2 μ Q R w r1 r2 h k
  unfold fPow at h
  split at h
  · cases r1; cases r2
    exact ⟨_, _, rfl, rfl, h.1, k (.int _) (.d (.int _)) μ ad H0 H (Gr.refl _ _ _) w (Dq.int _) h.2⟩
  · exact h.elim
/-! ### comparisons -/
/-- <, of ints or of alike data -/
def fLt : F2 := fun x y μ Q => match x, y with
  | .d (.int i), .d (.int j) => Q (.d (.bool (decide (i < j)))) μ
  | .d d, .d e => PySem.W.alike d e = true ∧ d ≠ .none ∧ d.depth ≤ 32 ∧ Q (.d (.bool (PySem.W.dataLt d e))) μ
  | _, _ => False
def rLtD (K : Frg) : R2 := fun x y H Q => ∃ d e, Dp K H x d ∧ Dp K H y e ∧ PySem.W.alike d e = true ∧ d ≠ .none ∧ d.depth ≤ 32 ∧ Q (.bl (PySem.W.dataLt d e)) H
theorem op_ltD {X : Cx} (hu : X.A.units + 64 < cLine) : OpR X (compareOp .Lt) (rLtD X.K) := by
  intro pins s σ H x y v u Q I rx ry h
  obtain ⟨d, e, hd, he, al, hn, hz, q⟩ := h
  obtain ⟨as, r1⟩ := Dp.reads I d x v hd rx
  obtain ⟨bs, r2⟩ := Dp.reads I e y u he ry
  exact PySem.W.lt_data r1 r2 al hn (by omega) ⟨.bl _, H, I, rfl, q⟩
def rLtJ (K : Frg) : R2 := fun x y H Q => rI0 (fun i j => .bl (decide (i < j))) x y H Q ∨ rLtD K x y H Q
theorem op_ltJ {X : Cx} (h : Fok F X) : OpR X (compareOp .Lt) (rLtJ F.K) := by
  have := OpR.or (X := X) op_lt (op_ltD h.room.units)
  rw [h.K] at this; exact this
theorem snd_ltJ : SndOp F (rLtJ F.K) fLt := by
  intro ad H0 H x y c1 c2 μ Q R w r1 r2 h k
  unfold fLt at h
  split at h
  · cases r1; cases r2
    exact .inl ⟨_, _, rfl, rfl, k (.bl _) (.d (.bool _)) μ ad H0 H (Gr.refl _ _ _) w (Dq.bl _) h⟩
  · exact .inr ⟨_, _, (Dq.mono w.ex r1).dp, (Dq.mono w.ex r2).dp, h.1, h.2.1, h.2.2.1, k (.bl _) (.d (.bool _)) μ ad H0 H (Gr.refl _ _ _) w (Dq.bl _) h.2.2.2⟩
  · exact h.elim
def fI (p : Int → Int → Bool) : F2 := fun x y μ Q => match x, y with
  | .d (.int i), .d (.int j) => Q (.d (.bool (p i j))) μ
  | _, _ => False
theorem snd_I {p : Int → Int → Bool} : SndOp F (rI0 fun i j => .bl (p i j)) (fI p) := by
  intro ad H0 H x y c1 c2 μ Q R w r1 r2 h k
  unfold fI at h
  split at h
  · cases r1; cases r2
    exact ⟨_, _, rfl, rfl, k (.bl _) (.d (.bool _)) μ ad H0 H (Gr.refl _ _ _) w (Dq.bl _) h⟩
  · exact h.elim
def pLe (i j : Int) : Bool := decide (i ≤ j)
def pGt (i j : Int) : Bool := decide (j < i)
def pGe (i j : Int) : Bool := decide (j ≤ i)
theorem op_leJ {X : Cx} : OpR X (compareOp .LtE) (rI0 fun i j => .bl (pLe i j)) := op_le
theorem op_gtJ {X : Cx} : OpR X (compareOp .Gt) (rI0 fun i j => .bl (pGt i j)) := op_gt
theorem op_geJ {X : Cx} : OpR X (compareOp .GtE) (rI0 fun i j => .bl (pGe i j)) := op_ge
/-- == and != of data -/
def fEq (neg : Bool) : F2 := fun x y μ Q => match x, y with
  | .d d, .d e => d.depth ≤ 32 ∧ Q (.d (.bool (neg != PyData.eqv d e))) μ
  | _, _ => False
def rEqP (K : Frg) (neg : Bool) : R2 := fun x y H Q => ∃ d e, Dp K H x d ∧ Dp K H y e ∧ d.plain = true ∧ e.plain = true ∧ d.depth ≤ 32 ∧ Q (.bl (neg != PyData.eqv d e)) H
theorem op_eqP {X : Cx} (hu : X.A.units + 64 < cLine) : OpR X (compareOp .Eq) (rEqP X.K false) := by
  intro pins s σ H x y v u Q I rx ry h
  obtain ⟨d, e, hd, he, pd, pe, hz, q⟩ := h
  obtain ⟨as, r1⟩ := Dp.reads I d x v hd rx
  obtain ⟨bs, r2⟩ := Dp.reads I e y u he ry
  have q' : Q (.bl (PyData.eqv d e)) H := by
    have z : (false != PyData.eqv d e) = PyData.eqv d e := by cases PyData.eqv d e <;> rfl
    rw [z] at q; exact q
  exact SeqAt.eq_plain r1 r2 pd pe (by omega) ⟨.bl _, H, I, rfl, q'⟩
theorem op_neP {X : Cx} (hu : X.A.units + 64 < cLine) : OpR X (compareOp .NotEq) (rEqP X.K true) := by
  intro pins s σ H x y v u Q I rx ry h
  obtain ⟨d, e, hd, he, pd, pe, hz, q⟩ := h
  obtain ⟨as, r1⟩ := Dp.reads I d x v hd rx
  obtain ⟨bs, r2⟩ := Dp.reads I e y u he ry
  have q' : Q (.bl (!PyData.eqv d e)) H := by
    have z : (true != PyData.eqv d e) = !PyData.eqv d e := by cases PyData.eqv d e <;> rfl
    rw [z] at q; exact q
  exact SeqAt.ne_plain r1 r2 pd pe (by omega) ⟨.bl _, H, I, rfl, q'⟩
theorem op_eqJ {X : Cx} (h : Fok F X) : OpR X (compareOp .Eq) (rEqP F.K false) := by
  have := op_eqP (X := X) h.room.units
  rw [h.K] at this; exact this
theorem op_neJ {X : Cx} (h : Fok F X) : OpR X (compareOp .NotEq) (rEqP F.K true) := by
  have := op_neP (X := X) h.room.units
  rw [h.K] at this; exact this
theorem snd_eqJ {neg : Bool} : SndOp F (rEqP F.K neg) (fEq neg) := by
  intro ad H0 H x y c1 c2 μ Q R w r1 r2 h k
  unfold fEq at h
  split at h
  · exact ⟨_, _, (Dq.mono w.ex r1).dp, (Dq.mono w.ex r2).dp, Dq.plain r1, Dq.plain r2, h.1, k (.bl _) (.d (.bool _)) μ ad H0 H (Gr.refl _ _ _) w (Dq.bl _) h.2⟩
  · exact h.elim
/-- in, not in: of data in a list or a tuple, of one sign in a text -/
def inD (d : PyData) (ds : List PyData) : Bool := ds.any fun z => PyData.eqv z d
def fIn (neg : Bool) : F2 := fun x y μ Q => match x, y with
  | .d (.str s), .d (.str z) => (match s.cps.toList with
    | [c] => Q (.d (.bool (neg != decide (c ∈ z.cps.toList)))) μ
    | _ => False)
  | .d d, y => (match cellsOf y μ with
    | some cs => (match allD cs with
      | some ds => d.depth ≤ 32 ∧ Q (.d (.bool (neg != inD d ds))) μ
      | none => False)
    | none => False)
  | _, _ => False
def rInP (K : Frg) (neg : Bool) : R2 := fun x y H Q => (∃ c z, x = .str ⟨#[c]⟩ ∧ y = .str z ∧ Q (.bl (neg != decide (c ∈ z.cps.toList))) H) ∨
  (∃ d ds, Dp K H x d ∧ (Dp K H y (.list ds) ∨ Dp K H y (.tuple ds)) ∧ d.plain = true ∧ PyData.plainAll ds = true ∧ d.depth ≤ 32 ∧ Q (.bl (neg != inD d ds)) H)
theorem op_inP {X : Cx} (hu : X.A.units + 64 < cLine) : OpR X (compareOp .In) (rInP X.K false) := by
  intro pins s σ H x y v u Q I rx ry h
  have z : ∀ b : Bool, (false != b) = b := fun b => by cases b <;> rfl
  rcases h with ⟨c, z', rfl, rfl, q⟩ | ⟨d, ds, hd, he, pd, pe, hz, q⟩
  · rw [z] at q
    exact op_in_sign pins s σ H _ _ v u Q I rx ry ⟨c, z', rfl, rfl, q⟩
  · rw [z] at q
    obtain ⟨as, r1⟩ := Dp.reads I d x v hd rx
    rcases he with he | he
    · obtain ⟨bs, r2⟩ := Dp.reads I (.list ds) y u he ry
      exact SeqAt.in_list_data r2 r1 pe pd (by omega) ⟨.bl _, H, I, rfl, q⟩
    · obtain ⟨bs, r2⟩ := Dp.reads I (.tuple ds) y u he ry
      exact SeqAt.in_tuple_data r2 r1 pe pd (by omega) ⟨.bl _, H, I, rfl, q⟩
theorem op_notInP {X : Cx} (hu : X.A.units + 64 < cLine) : OpR X (compareOp .NotIn) (rInP X.K true) := by
  intro pins s σ H x y v u Q I rx ry h
  have z : ∀ b : Bool, (true != b) = !b := fun b => by cases b <;> rfl
  rcases h with ⟨c, z', rfl, rfl, q⟩ | ⟨d, ds, hd, he, pd, pe, hz, q⟩
  · rw [z] at q
    exact op_notIn_sign pins s σ H _ _ v u Q I rx ry ⟨c, z', rfl, rfl, q⟩
  · rw [z] at q
    obtain ⟨as, r1⟩ := Dp.reads I d x v hd rx
    rcases he with he | he
    · obtain ⟨bs, r2⟩ := Dp.reads I (.list ds) y u he ry
      exact SeqAt.notIn_list_data r2 r1 pe pd (by omega) ⟨.bl _, H, I, rfl, q⟩
    · obtain ⟨bs, r2⟩ := Dp.reads I (.tuple ds) y u he ry
      exact SeqAt.notIn_tuple_data r2 r1 pe pd (by omega) ⟨.bl _, H, I, rfl, q⟩
theorem op_inJ {X : Cx} (h : Fok F X) : OpR X (compareOp .In) (rInP F.K false) := by
  have := op_inP (X := X) h.room.units
  rw [h.K] at this; exact this
theorem op_notInJ {X : Cx} (h : Fok F X) : OpR X (compareOp .NotIn) (rInP F.K true) := by
  have := op_notInP (X := X) h.room.units
  rw [h.K] at this; exact this
/-- what stands behind a cell that is a list or a tuple -/
theorem cells_at {K : Frg} {ad : List Addr} {H0 H : Hp} {μ : Sto} (w : Wr K ad H0 H μ) {y : V} {c : Cl} {cs : List Cl} (r : ClR K ad H0 y c) (h : cellsOf c μ = some cs) :
    ∃ a vs, y = .ref a ∧ (SqL K H a vs ∨ SqT K H a vs) ∧ ClRs K ad H0 vs cs := by
  unfold cellsOf at h
  split at h
  · cases h
    cases r with
    | lst h1 h2 => exact ⟨_, _, rfl, .inl (SqL.of (w.ex _ _ h1)), dq_clrs h2⟩
  · cases h
    cases r with
    | tup h1 h2 => exact ⟨_, _, rfl, .inr (ex_t w.ex h1), dq_clrs h2⟩
  · rename_i ns
    cases h
    obtain ⟨a, rfl, h1⟩ := r
    refine ⟨a, _, rfl, .inl (ex_l w.ex h1), ?_⟩
    have z : ∀ ns : List Int, ClRs K ad H0 (ns.map V.int) (ns.map fun i => Cl.d (.int i)) := fun ns => by
      induction ns with
      | nil => exact .nil
      | cons n ns ih => exact .cons (Dq.int n) ih
    exact z ns
  · split at h
    · rename_i j cs' hj
      cases h
      obtain ⟨a, h1, rfl⟩ := r
      obtain ⟨ho, h2, h3⟩ := w.at_ _ a _ h1 hj
      cases ho <;> first | exact h3.elim | exact ⟨a, _, rfl, .inl (SqL.of h2), h3⟩
    · cases h
  · cases h
theorem cellsL_at {K : Frg} {ad : List Addr} {H0 H : Hp} {μ : Sto} (w : Wr K ad H0 H μ) {y : V} {c : Cl} {cs : List Cl} (r : ClR K ad H0 y c) (h : cellsOf c μ = some cs) (hn : ¬ ∃ es, c = Cl.d (.tuple es)) :
    ∃ a vs, y = .ref a ∧ SqL K H a vs ∧ ClRs K ad H0 vs cs := by
  unfold cellsOf at h
  split at h
  · cases h
    cases r with
    | lst h1 h2 => exact ⟨_, _, rfl, SqL.of (w.ex _ _ h1), dq_clrs h2⟩
  · cases h
    cases r with
    | tup h1 h2 => exact absurd ⟨_, rfl⟩ hn
  · rename_i ns
    cases h
    obtain ⟨a, rfl, h1⟩ := r
    refine ⟨a, _, rfl, ex_l w.ex h1, ?_⟩
    have z : ∀ ns : List Int, ClRs K ad H0 (ns.map V.int) (ns.map fun i => Cl.d (.int i)) := fun ns => by
      induction ns with
      | nil => exact .nil
      | cons n ns ih => exact .cons (Dq.int n) ih
    exact z ns
  · split at h
    · rename_i j cs' hj
      cases h
      obtain ⟨a, h1, rfl⟩ := r
      obtain ⟨ho, h2, h3⟩ := w.at_ _ a _ h1 hj
      cases ho <;> first | exact h3.elim | exact ⟨a, _, rfl, SqL.of h2, h3⟩
    · cases h
  · cases h
theorem list_at {K : Frg} {ad : List Addr} {H0 H : Hp} {μ : Sto} (w : Wr K ad H0 H μ) {y : V} {c : Cl} {cs : List Cl} (r : ClR K ad H0 y c) (h : listOf c μ = some cs) :
    ∃ a vs, y = .ref a ∧ H a = some (.lst vs) ∧ ClRs K ad H0 vs cs := by
  unfold listOf at h
  split at h
  · cases h
    cases r with
    | lst h1 h2 => exact ⟨_, _, rfl, w.ex _ _ h1, dq_clrs h2⟩
  · split at h
    · rename_i j cs' hj
      cases h
      obtain ⟨a, h1, rfl⟩ := r
      obtain ⟨ho, h2, h3⟩ := w.at_ _ a _ h1 hj
      cases ho <;> first | exact h3.elim | exact ⟨a, _, rfl, h2, h3⟩
    · cases h
  · cases h
theorem snd_inJ {neg : Bool} : SndOp F (rInP F.K neg) (fIn neg) := by
  intro ad H0 H x y c1 c2 μ Q R w r1 r2 h k
  unfold fIn at h
  split at h
  · cases r1; cases r2
    split at h
    · rename_i c hc
      have e : ∀ s : Str, s.cps.toList = [c] → s = ⟨#[c]⟩ := fun s z => by
        cases s with
        | mk cps =>
          have z' : cps.toList = (#[c] : Array Nat).toList := z
          rw [Array.toList_inj.mp z']
      exact .inl ⟨c, _, by rw [e _ hc], rfl, k (.bl _) (.d (.bool _)) μ ad H0 H (Gr.refl _ _ _) w (Dq.bl _) h⟩
    · exact h.elim
  · split at h
    · rename_i cs hc
      split at h
      · rename_i ds hd
        obtain ⟨a, vs, rfl, h1, h2⟩ := cells_at w r2 hc
        rw [allD_eq hd] at h2
        have h3 := clrs_dq h2
        have h4 : DpAll F.K H vs ds := (h3.mono w.ex).dp
        refine .inr ⟨_, ds, (Dq.mono w.ex r1).dp, ?_, Dq.plain r1, h3.plain, h.1, k (.bl _) (.d (.bool _)) μ ad H0 H (Gr.refl _ _ _) w (Dq.bl _) h.2⟩
        rcases h1 with h1 | h1
        · exact .inl (.lst h1 h4)
        · exact .inr (.tup h1 h4)
      · exact h.elim
    · exact h.elim
  · exact h.elim
/-- is not None -/
def someD (d : PyData) : Bool := match d with
  | .none => false
  | _ => true
def fNotN : F2 := fun x y μ Q => match x, y with
  | .d d, .d .none => Q (.d (.bool (someD d))) μ
  | _, _ => False
theorem snd_notN : SndOp F (fun x y H Q => y = .non ∧ Q (.bl (!decide (x = .non))) H) fNotN := by
  intro ad H0 H x y c1 c2 μ Q R w r1 r2 h k
  unfold fNotN at h
  split at h
  · rename_i d
    cases r2
    refine ⟨rfl, ?_⟩
    have e : (!decide (x = V.non)) = someD d := by
      cases r1 <;> simp [someD]
    rw [e]
    exact k (.bl _) (.d (.bool _)) μ ad H0 H (Gr.refl _ _ _) w (Dq.bl _) h
  · exact h.elim
end
end Jh

set_option Elab.async false
set_option linter.all false
set_option maxRecDepth 100000
set_option maxHeartbeats 2000000
namespace Jh
open PySem PySem.Spec PyProof.Rows L2

section
variable {F : Fx} {e a b : Expr} {A B : AX} {pos : Pos}
/-! ### subscripts -/
theorem atI_paired {α β : Type} {R : α → β → Prop} {xs : List α} {ys : List β} {i : Int} {y : β} (h : Paired R xs ys) (e : atI ys i = some y) : ∃ x, atI xs i = some x ∧ R x y := by
  unfold atI at e ⊢
  rw [Paired.len h]
  cases q : ixN ys.length i with
  | none => rw [q] at e; cases e
  | some j =>
    rw [q] at e
    exact Paired.get h e
def fIx : F2 := fun x y μ Q => match y with
  | .d (.int i) => (match x with
    | .d (.str z) => z.length ≤ 1000 ∧ (match atI z.cps.toList i with
      | some c => Q (.d (.str ⟨#[c]⟩)) μ
      | none => False)
    | x => (match cellsOf x μ with
      | some cs => (match atI cs i with
        | some c => Q c μ
        | none => False)
      | none => False))
  | _ => False
theorem ix_J {X : Cx} (h : Fok F X) : IxR X (rIx F.K) := by
  have := ix_seq (X := X)
  rw [h.K] at this; exact this
theorem snd_ix : SndOp F (rIx F.K) fIx := by
  intro ad H0 H x y c1 c2 μ Q R w r1 r2 h k
  unfold fIx at h
  split at h
  · rename_i i
    cases r2
    split at h
    · rename_i z
      cases r1
      obtain ⟨hz, h⟩ := h
      split at h
      · rename_i c hc
        exact .inr (.inr ⟨z, i, c, rfl, rfl, line_of hz, hc, k (.str _) (.d (.str _)) μ ad H0 H (Gr.refl _ _ _) w (Dq.str _) h⟩)
      · exact h.elim
    · split at h
      · rename_i cs hcs
        split at h
        · rename_i c hc
          obtain ⟨p, vs, rfl, hp, hv⟩ := cells_at w r1 hcs
          obtain ⟨v, hv1, hv2⟩ := atI_paired hv hc
          have q := k v c μ ad H0 H (Gr.refl _ _ _) w hv2 h
          rcases hp with hp | hp
          · exact .inl ⟨p, vs, i, v, rfl, rfl, hp, hv1, q⟩
          · exact .inr (.inl ⟨p, vs, i, v, rfl, rfl, hp, hv1, q⟩)
        · exact h.elim
      · exact h.elim
  · exact h.elim
def aIx (a b : AX) : AX := aOp fIx a b
theorem ae_ix (ha : AE F a A) (hb : AE F b B) (hs : PlainIx b) : AE F (.Subscript a b pos) (aIx A B) := by
  obtain ⟨ta, pa, sa⟩ := ha
  obtain ⟨tb, pb, sb⟩ := hb
  exact ⟨_, fun X h => pe_ix (ix_J h) (pa X h) (pb X h) hs, snd_op snd_ix sa sb⟩
/-! ### slices -/
variable {lo hi : Option Expr} {OL OH : AO} {p2 : Pos}
def aNoP : AO := fun _ _ μ Q => Q none μ
def aSomeP (a : AX) : AO := fun er ρ μ Q => a er ρ μ fun c μ1 => match c with
  | .d (.int i) => Q (some i) μ1
  | _ => False
theorem ao_none : AOs F none aNoP := ⟨_, fun _ _ => po_none, fun ad H0 H _ _ μ _ _ _ w _ _ h k => k none μ ad H0 H (Gr.refl _ _ _) w h⟩
theorem ao_some (ha : AE F a A) : AOs F (some a) (aSomeP A) := by
  obtain ⟨t, p, s⟩ := ha
  refine ⟨_, fun X h => po_some (p X h), fun ad H0 H σ ρ μ er Q R w sl el h k => ?_⟩
  refine s ad H0 H σ ρ μ er _ _ w sl el h fun v c μ1 ad1 H01 H1 g1 w1 r1 h1 => ?_
  split at h1
  · cases r1
    exact ⟨_, rfl, k _ μ1 ad1 H01 H1 g1 w1 h1⟩
  · exact h1.elim
def cutA {α : Type} (xs : List α) (lo hi : Option Int) : List α := (xs.drop (HT.sIx xs.length 0 lo)).take (HT.sIx xs.length xs.length hi - HT.sIx xs.length 0 lo)
theorem cut_whole {α : Type} {xs : List α} {lo hi : Option Int} (h : HT.sIx xs.length 0 lo = 0 ∧ HT.sIx xs.length xs.length hi = xs.length) : cutA xs lo hi = xs := by
  unfold cutA
  rw [h.1, h.2]
  simp
theorem cut_paired {α β : Type} {R : α → β → Prop} {xs : List α} {ys : List β} (h : Paired R xs ys) (lo hi : Option Int) : Paired R (cutA xs lo hi) (cutA ys lo hi) := by
  unfold cutA
  rw [Paired.len h]
  exact Paired.tak _ (Paired.drp _ h)
theorem dq_cut {K : Frg} {H : Hp} {vs : List V} {ds : List PyData} (h : DqAll K H vs ds) (lo hi : Option Int) : DqAll K H (cutV vs lo hi) (cutA ds lo hi) := by
  unfold cutV cutA
  rw [h.length]
  exact (h.drop _).take _
/-- of a tuple -/
def aSlT (a : AX) (l u : AO) : AX := fun er ρ μ Q => a er ρ μ fun x μ1 => l er ρ μ1 fun lo μ2 => u er ρ μ2 fun hi μ3 => match x with
  | .d (.tuple ds) => Q (.d (.tuple (cutA ds lo hi))) μ3
  | _ => False
theorem ae_slT (ha : AE F a A) (hl : AOs F lo OL) (hh : AOs F hi OH) : AE F (.Subscript a (.Slice lo hi none p2) pos) (aSlT A OL OH) := by
  obtain ⟨t, p, s⟩ := ha
  obtain ⟨tl, pl, sl⟩ := hl
  obtain ⟨th, ph, sh⟩ := hh
  refine ⟨_, fun X h => pe_slice (r := rSlA F.K) (by have := sl_tupA (X := X); rw [h.K] at this; exact this) (p X h) (pl X h) (ph X h), fun ad H0 H σ ρ μ er Q R w sl0 el h k => ?_⟩
  refine s ad H0 H σ ρ μ er _ _ w sl0 el h fun v c μ1 ad1 H01 H1 g1 w1 r1 h1 => ?_
  refine sl ad1 H01 H1 σ ρ μ1 er _ _ w1 (g1.sl sl0) (el.step g1) h1 fun o μ2 ad2 H02 H2 g2 w2 h2 => ?_
  refine sh ad2 H02 H2 σ ρ μ2 er _ _ w2 ((g1.trans g2).sl sl0) (el.step (g1.trans g2)) h2 fun o2 μ3 ad3 H03 H3 g3 w3 h3 => ?_
  split at h3
  · rename_i ds
    have r3 : ClR F.K ad3 H03 v (.d (.tuple ds)) := (g2.trans g3).cl r1
    cases r3 with
    | tup s1 d1 =>
      refine ⟨_, _, rfl, ex_t w3.ex s1, fun hw => ?_, fun _ q hq => ?_⟩
      · rw [d1.length] at hw
        rw [cut_whole hw] at h3
        exact k _ (.d (.tuple _)) μ3 ad3 H03 H3 ((g1.trans g2).trans g3) w3 (Dq.tup s1 d1) h3
      · have n := w3.none_of hq
        exact k _ (.d (.tuple _)) μ3 ad3 _ _ (((g1.trans g2).trans g3).trans (Gr.frz w3 hq)) (w3.frz hq) (Dq.tup (SqT.of upd_same) ((dq_cut d1 o o2).mono (Ex.upd n.2))) h3
  · exact h3.elim
/-- of a list: a new list -/
def aSlL (a : AX) (l u : AO) : AA := fun er ρ μ Q => a er ρ μ fun x μ1 => l er ρ μ1 fun lo μ2 => u er ρ μ2 fun hi μ3 => match listOf x μ3 with
  | some cs => Q (cutA cs lo hi) μ3
  | none => False
theorem al_new {ad : List Addr} {H0 H : Hp} {ad1 : List Addr} {H01 H1 : Hp} {μ1 : Sto} {vs : List V} {cs : List Cl} {Q : List Cl → Sto → Prop} {R : VK} (g1 : Gr ad H0 H ad1 H01 H1) (w1 : Wr F.K ad1 H01 H1 μ1) (r : ClRs F.K ad1 H01 vs cs)
    (h : Q cs μ1) (k : ∀ p vs cs μ' ad' H0' H', Gr ad H0 H ad' H0' H' → Wr F.K ad' H0' H' μ' → H p = none → H' p = some (.lst vs) → H0' p = none → p ∉ ad' → ClRs F.K ad' H0' vs cs → Q cs μ' → R (.ref p) H') :
    ∀ p, H1 p = none → R (.ref p) (upd H1 p (.lst vs)) := fun p hp => by
  have n := w1.none_of hp
  exact k p vs cs μ1 ad1 H01 _ (g1.trans (Gr.more (Ex.upd hp))) (w1.more (Ex.upd hp)) (g1.stay p hp) upd_same n.2 n.1 r h
theorem al_sl (ha : AE F a A) (hl : AOs F lo OL) (hh : AOs F hi OH) : AL F (.Subscript a (.Slice lo hi none p2) pos) (aSlL A OL OH) := by
  obtain ⟨t, p, s⟩ := ha
  obtain ⟨tl, pl, sl⟩ := hl
  obtain ⟨th, ph, sh⟩ := hh
  refine ⟨_, fun X h => pe_slice (r := rSlL F.K) (by have := sl_list (X := X); rw [h.K] at this; exact this) (p X h) (pl X h) (ph X h), fun ad H0 H σ ρ μ er Q R w sl0 el h k => ?_⟩
  refine s ad H0 H σ ρ μ er _ _ w sl0 el h fun v c μ1 ad1 H01 H1 g1 w1 r1 h1 => ?_
  refine sl ad1 H01 H1 σ ρ μ1 er _ _ w1 (g1.sl sl0) (el.step g1) h1 fun o μ2 ad2 H02 H2 g2 w2 h2 => ?_
  refine sh ad2 H02 H2 σ ρ μ2 er _ _ w2 ((g1.trans g2).sl sl0) (el.step (g1.trans g2)) h2 fun o2 μ3 ad3 H03 H3 g3 w3 h3 => ?_
  split at h3
  · rename_i cs hc
    obtain ⟨p, vs, rfl, hp, hv⟩ := list_at w3 ((g2.trans g3).cl r1) hc
    exact ⟨p, vs, rfl, SqL.of hp, al_new ((g1.trans g2).trans g3) w3 (show ClRs F.K ad3 H03 (cutV vs o o2) (cutA cs o o2) from cut_paired hv o o2) h3 k⟩
  · exact h3.elim
/-! ### lists made of lists -/
def aCat (a b : AX) : AA := fun er ρ μ Q => a er ρ μ fun x μ1 => b er ρ μ1 fun y μ2 => match listOf x μ2, listOf y μ2 with
  | some cs, some es => cs.length + es.length ≤ 1000 ∧ Q (cs ++ es) μ2
  | _, _ => False
theorem al_cat (ha : AE F a A) (hb : AE F b B) : AL F (.BinOp a .Add b pos) (aCat A B) := by
  obtain ⟨ta, pa, sa⟩ := ha
  obtain ⟨tb, pb, sb⟩ := hb
  refine ⟨_, fun X h => pe_op op_cat (pa X h) (pb X h), fun ad H0 H σ ρ μ er Q R w sl el h k => ?_⟩
  refine sa ad H0 H σ ρ μ er _ _ w sl el h fun v c μ1 ad1 H01 H1 g1 w1 r1 h1 => ?_
  refine sb ad1 H01 H1 σ ρ μ1 er _ _ w1 (g1.sl sl) (el.step g1) h1 fun v2 c2 μ2 ad2 H02 H2 g2 w2 r2 h2 => ?_
  split at h2
  · rename_i cs es hc he
    obtain ⟨p, vs, rfl, hp, hv⟩ := list_at w2 (g2.cl r1) hc
    obtain ⟨q, ws, rfl, hq, hw⟩ := list_at w2 r2 he
    exact ⟨p, q, vs, ws, rfl, rfl, hp, hq, line_of (by rw [Paired.len hv, Paired.len hw]; exact h2.1), al_new (g1.trans g2) w2 (Paired.app hv hw) h2.2 k⟩
  · exact h2.elim
theorem paired_rep {α β : Type} {R : α → β → Prop} {xs : List α} {ys : List β} (h : Paired R xs ys) : ∀ n : Nat, Paired R (List.replicate n xs).flatten (List.replicate n ys).flatten
  | 0 => .nil
  | n + 1 => by
    rw [List.replicate_succ, List.replicate_succ, List.flatten_cons, List.flatten_cons]
    exact Paired.app h (paired_rep h n)
def aRep (a b : AX) : AA := fun er ρ μ Q => a er ρ μ fun x μ1 => b er ρ μ1 fun y μ2 => match listOf x μ2, y with
  | some cs, .d (.int n) => 0 ≤ n ∧ n ≤ 1000 ∧ cs.length ≤ 1000 ∧ Q (List.replicate n.toNat cs).flatten μ2
  | _, _ => False
theorem al_rep (ha : AE F a A) (hb : AE F b B) : AL F (.BinOp a .Mult b pos) (aRep A B) := by
  obtain ⟨ta, pa, sa⟩ := ha
  obtain ⟨tb, pb, sb⟩ := hb
  refine ⟨_, fun X h => pe_op op_rep (pa X h) (pb X h), fun ad H0 H σ ρ μ er Q R w sl el h k => ?_⟩
  refine sa ad H0 H σ ρ μ er _ _ w sl el h fun v c μ1 ad1 H01 H1 g1 w1 r1 h1 => ?_
  refine sb ad1 H01 H1 σ ρ μ1 er _ _ w1 (g1.sl sl) (el.step g1) h1 fun v2 c2 μ2 ad2 H02 H2 g2 w2 r2 h2 => ?_
  split at h2
  · rename_i cs n hc
    obtain ⟨p, vs, rfl, hp, hv⟩ := list_at w2 (g2.cl r1) hc
    cases r2
    obtain ⟨h0, h1k, hl, hq⟩ := h2
    refine ⟨p, n, vs, rfl, rfl, hp, by omega, by omega, ?_, al_new (g1.trans g2) w2 (paired_rep hv _) hq k⟩
    rw [Paired.len hv, sizeLine_eq]
    have h3 : n.toNat ≤ 1000 := by omega
    have h4 : cs.length * n.toNat ≤ 1000 * 1000 := Nat.mul_le_mul hl h3
    omega
  · exact h2.elim
/-! ### calls of built-ins -/
abbrev FC := List Cl → Sto → (Cl → Sto → Prop) → Prop
def SndC (F : Fx) (r : List V → Hp → VK → Prop) (f : FC) : Prop := ∀ (ad : List Addr) (H0 H : Hp) (vs : List V) (cs : List Cl) (μ : Sto) (Q : Cl → Sto → Prop) (R : VK), Wr F.K ad H0 H μ → ClRs F.K ad H0 vs cs → f cs μ Q →
  (∀ v c μ' ad' H0' H', Gr ad H0 H ad' H0' H' → Wr F.K ad' H0' H' μ' → ClR F.K ad' H0' v c → Q c μ' → R v H') → r vs H R
abbrev FL := List Cl → Sto → (List Cl → Sto → Prop) → Prop
def SndCL (F : Fx) (r : List V → Hp → VK → Prop) (f : FL) : Prop := ∀ (ad : List Addr) (H0 H : Hp) (vs : List V) (cs : List Cl) (μ : Sto) (Q : List Cl → Sto → Prop) (R : VK), Wr F.K ad H0 H μ → ClRs F.K ad H0 vs cs → f cs μ Q →
  (∀ p vs cs μ' ad' H0' H', Gr ad H0 H ad' H0' H' → Wr F.K ad' H0' H' μ' → H p = none → H' p = some (.lst vs) → H0' p = none → p ∉ ad' → ClRs F.K ad' H0' vs cs → Q cs μ' → R (.ref p) H') → r vs H R
variable {es : List Expr} {AR : AA} {r : List V → Hp → VK → Prop} {f : FC} {fl : FL} {x : Str} {p : Pos} {id T : String}
def aCB (f : FC) (r : AA) : AX := fun er ρ μ Q => r er ρ μ fun cs μ1 => f cs μ1 Q
def aCBL (f : FL) (r : AA) : AA := fun er ρ μ Q => r er ρ μ fun cs μ1 => f cs μ1 Q
theorem snd_cb {t : TA} (hs : SndC F r f) (h : SndA F t AR) : Snd F (tCB r t) (aCB f AR) := by
  intro ad H0 H σ ρ μ er Q R w sl el h1 k
  refine h ad H0 H σ ρ μ er _ _ w sl el h1 fun vs cs μ1 ad1 H01 H1 g1 w1 r1 h2 => ?_
  exact hs ad1 H01 H1 vs cs μ1 Q R w1 r1 h2 fun v c μ2 ad2 H02 H2 g2 w2 r2 h3 => k v c μ2 ad2 H02 H2 (g1.trans g2) w2 r2 h3
theorem snd_cbl {t : TA} (hs : SndCL F r fl) (h : SndA F t AR) : SndL F (tCB r t) (aCBL fl AR) := by
  intro ad H0 H σ ρ μ er Q R w sl el h1 k
  refine h ad H0 H σ ρ μ er _ _ w sl el h1 fun vs cs μ1 ad1 H01 H1 g1 w1 r1 h2 => ?_
  exact hs ad1 H01 H1 vs cs μ1 Q R w1 r1 h2 fun q vs cs μ2 ad2 H02 H2 g2 w2 n1 n2 n3 n4 r2 h3 => k q vs cs μ2 ad2 H02 H2 (g1.trans g2) w2 (g1.stay q n1) n2 n3 n4 r2 h3
theorem ae_callB (hc : ∀ X, Fok F X → CallR X (.builtin id) r) (hs : SndC F r f) (hg : GlF F x) (hm : F.mg x = none) (hv : bootBuiltins x = some (.builtin id)) (ha : AAs F (e :: es) AR) (hn : x ≠ "__name__") (hdb : (x == ("__debug__" : Str)) = false)
    (he : ∀ X : Cx, starEach (e :: es) X.env = (false, eval e X.env) :: starEach es X.env) (hpl : ∀ X : Cx, (backTo pos (starEach es X.env)).any (·.1) = false) : AE F (.Call (.Name x p) (e :: es) [] pos) (aCB f AR) := by
  obtain ⟨t, pa, sa⟩ := ha
  exact ⟨_, fun X h => pe_callB (hc X h) (gl_of h hg) (by rw [h.mg]; exact hm) hv (pa X h) hn hdb (he X) (hpl X), snd_cb hs sa⟩
theorem ae_callTy (hc : ∀ X, Fok F X → CallR X (.type T) r) (hs : SndC F r f) (hg : GlF F x) (hm : F.mg x = none) (hv : bootBuiltins x = some (.type T)) (ha : AAs F (e :: es) AR) (hn : x ≠ "__name__") (hdb : (x == ("__debug__" : Str)) = false)
    (he : ∀ X : Cx, starEach (e :: es) X.env = (false, eval e X.env) :: starEach es X.env) (hpl : ∀ X : Cx, (backTo pos (starEach es X.env)).any (·.1) = false) : AE F (.Call (.Name x p) (e :: es) [] pos) (aCB f AR) := by
  obtain ⟨t, pa, sa⟩ := ha
  exact ⟨_, fun X h => pe_callTy (hc X h) (gl_of h hg) (by rw [h.mg]; exact hm) hv (pa X h) hn hdb (he X) (hpl X), snd_cb hs sa⟩
theorem ae_callF (hc : ∀ X, Fok F X → CallR X (.builtin id) r) (hs : SndC F r f) (hg : GlF F x) (hm : F.mg x = some (.builtin id)) (ha : AAs F (e :: es) AR) (hdb : (x == ("__debug__" : Str)) = false)
    (he : ∀ X : Cx, starEach (e :: es) X.env = (false, eval e X.env) :: starEach es X.env) (hpl : ∀ X : Cx, (backTo pos (starEach es X.env)).any (·.1) = false) : AE F (.Call (.Name x p) (e :: es) [] pos) (aCB f AR) := by
  obtain ⟨t, pa, sa⟩ := ha
  exact ⟨_, fun X h => pe_callBfun (hc X h) (gl_of h hg) (by rw [h.mg]; exact hm) (pa X h) hdb (he X) (hpl X), snd_cb hs sa⟩
theorem al_callB (hc : ∀ X, Fok F X → CallR X (.builtin id) r) (hs : SndCL F r fl) (hg : GlF F x) (hm : F.mg x = none) (hv : bootBuiltins x = some (.builtin id)) (ha : AAs F (e :: es) AR) (hn : x ≠ "__name__") (hdb : (x == ("__debug__" : Str)) = false)
    (he : ∀ X : Cx, starEach (e :: es) X.env = (false, eval e X.env) :: starEach es X.env) (hpl : ∀ X : Cx, (backTo pos (starEach es X.env)).any (·.1) = false) : AL F (.Call (.Name x p) (e :: es) [] pos) (aCBL fl AR) := by
  obtain ⟨t, pa, sa⟩ := ha
  exact ⟨_, fun X h => pe_callB (hc X h) (gl_of h hg) (by rw [h.mg]; exact hm) hv (pa X h) hn hdb (he X) (hpl X), snd_cbl hs sa⟩
theorem al_callTy (hc : ∀ X, Fok F X → CallR X (.type T) r) (hs : SndCL F r fl) (hg : GlF F x) (hm : F.mg x = none) (hv : bootBuiltins x = some (.type T)) (ha : AAs F (e :: es) AR) (hn : x ≠ "__name__") (hdb : (x == ("__debug__" : Str)) = false)
    (he : ∀ X : Cx, starEach (e :: es) X.env = (false, eval e X.env) :: starEach es X.env) (hpl : ∀ X : Cx, (backTo pos (starEach es X.env)).any (·.1) = false) : AL F (.Call (.Name x p) (e :: es) [] pos) (aCBL fl AR) := by
  obtain ⟨t, pa, sa⟩ := ha
  exact ⟨_, fun X h => pe_callTy (hc X h) (gl_of h hg) (by rw [h.mg]; exact hm) hv (pa X h) hn hdb (he X) (hpl X), snd_cbl hs sa⟩
/-! len, abs, int, str, all, any, tuple, list, min, max, gcd -/
theorem cK {r : Frg → List V → Hp → VK → Prop} {u : Value} (h : ∀ X : Cx, X.calm = true → CallR X u (r X.K)) : ∀ X, Fok F X → CallR X u (r F.K) := fun X hX => by
  have := h X hX.calm
  rw [hX.K] at this; exact this
theorem c0 {r : List V → Hp → VK → Prop} {u : Value} (h : ∀ X : Cx, X.calm = true → CallR X u r) : ∀ X, Fok F X → CallR X u r := fun X hX => h X hX.calm
def fLen : FC := fun cs μ Q => match cs with
  | [.d (.str z)] => z.length ≤ 1000 ∧ Q (.d (.int z.length)) μ
  | [c] => (match cellsOf c μ with
    | some xs => Q (.d (.int xs.length)) μ
    | none => False)
  | _ => False
theorem snd_len : SndC F (fun xs H Q => ∃ x n, xs = [x] ∧ LenV F.K x H n ∧ Q (.int (n : Nat)) H) fLen := by
  intro ad H0 H vs cs μ Q R w r1 h k
  unfold fLen at h
  split at h
  · cases r1 with
    | cons r t =>
      cases t
      cases r
      exact ⟨_, _, rfl, ⟨line_of h.1, rfl⟩, k (.int _) (.d (.int _)) μ ad H0 H (Gr.refl _ _ _) w (Dq.int _) h.2⟩
  · rename_i c _
    cases r1 with
    | cons r t =>
      cases t
      split at h
      · rename_i xs hx
        obtain ⟨a, ws, rfl, h1, h2⟩ := cells_at w r hx
        refine ⟨_, xs.length, rfl, ?_, k (.int _) (.d (.int _)) μ ad H0 H (Gr.refl _ _ _) w (Dq.int _) h⟩
        rcases h1 with h1 | h1
        · exact .inl ⟨ws, h1, (Paired.len h2).symm⟩
        · exact .inr ⟨ws, h1, (Paired.len h2).symm⟩
      · exact h.elim
  · exact h.elim
def fAbs : FC := fun cs μ Q => match cs with
  | [.d (.int i)] => Q (.d (.int (if i < 0 then -i else i))) μ
  | _ => False
theorem snd_abs : SndC F (fun xs H Q => ∃ i, xs = [.int i] ∧ Q (.int (if i < 0 then -i else i)) H) fAbs := by
  intro ad H0 H vs cs μ Q R w r1 h k
  unfold fAbs at h
  split at h
  · cases r1 with
    | cons r t =>
      cases t; cases r
      exact ⟨_, rfl, k (.int _) (.d (.int _)) μ ad H0 H (Gr.refl _ _ _) w (Dq.int _) h⟩
  · exact h.elim
def fInt : FC := fun cs μ Q => match cs with
  | [.d (.int i)] => Q (.d (.int i)) μ
  | _ => False
theorem snd_int : SndC F (fun xs H Q => (∃ i, xs = [.int i] ∧ Q (.int i) H) ∨ ∃ k : Bool, xs = [.bl k] ∧ Q (.int (if k then 1 else 0)) H) fInt := by
  intro ad H0 H vs cs μ Q R w r1 h k
  unfold fInt at h
  split at h
  · cases r1 with
    | cons r t =>
      cases t; cases r
      exact .inl ⟨_, rfl, k (.int _) (.d (.int _)) μ ad H0 H (Gr.refl _ _ _) w (Dq.int _) h⟩
  · exact h.elim
def fStr : FC := fun cs μ Q => match cs with
  | [.d (.int i)] => i.natAbs.log2 < 1920 ∧ Q (.d (.str (Str.ofString (toString i)))) μ
  | _ => False
def fGcd : FC := fun cs μ Q => match cs with
  | [.d (.int i), .d (.int j)] => Q (.d (.int ((Nat.gcd i.natAbs j.natAbs : Nat) : Int))) μ
  | _ => False
theorem snd_gcd : SndC F rGcd fGcd := by
  intro ad H0 H vs cs μ Q R w r1 h k
  unfold fGcd at h
  split at h
  · cases r1 with
    | cons r t =>
      cases t with
      | cons r' t' =>
        cases t'; cases r; cases r'
        exact ⟨_, _, rfl, k (.int _) (.d (.int _)) μ ad H0 H (Gr.refl _ _ _) w (Dq.int _) h⟩
  · exact h.elim
def rLcm : List V → Hp → VK → Prop := fun vs H Q => ∃ a b : Int, vs = [.int a, .int b] ∧ a.natAbs < 2 ^ 60 ∧ b.natAbs < 2 ^ 60 ∧ Q (.int ((Nat.lcm a.natAbs b.natAbs : Nat) : Int)) H
theorem log_small {n : Nat} (h : n < 2 ^ 120) : n.log2 < bitsLine := by
  have e : bitsLine = 134217728 := by decide
  rw [e]
  by_cases h0 : n = 0
  · subst h0; decide
  · have := Nat.log2_lt (n := n) (k := 120) h0
    omega
theorem cr_lcm {X : Cx} : CallR X (.builtin "math.lcm") rLcm := by
  intro pins s σ H vs us Q I r h
  obtain ⟨a, b, rfl, ha, hb, q⟩ := h
  obtain ⟨t, u, rfl⟩ := Vals.int2 r
  have e1 : (Nat.lcm 1 a.natAbs).lcm b.natAbs = Nat.lcm a.natAbs b.natAbs := by rw [Nat.lcm_one_left]
  have h1 : a.natAbs < 2 ^ 64 := Nat.lt_of_lt_of_le ha (by decide)
  have h2 : b.natAbs < 2 ^ 64 := Nat.lt_of_lt_of_le hb (by decide)
  refine PySem.W.mg_lcm h1 h2 ?_ ⟨.int ((Nat.lcm a.natAbs b.natAbs : Nat) : Int), H, I.tok _, ⟨_, by rw [e1]⟩, q⟩
  rw [e1, Int.natAbs_natCast]
  refine log_small ?_
  have h3 : Nat.lcm a.natAbs b.natAbs ≤ a.natAbs * b.natAbs := by
    unfold Nat.lcm
    exact Nat.div_le_self _ _
  have h4 : a.natAbs * b.natAbs < 2 ^ 60 * 2 ^ 60 := Nat.mul_lt_mul'' ha hb
  have h5 : (2 : Nat) ^ 60 * 2 ^ 60 = 2 ^ 120 := by decide
  omega
def fLcm : FC := fun cs μ Q => match cs with
  | [.d (.int i), .d (.int j)] => i.natAbs < 2 ^ 60 ∧ j.natAbs < 2 ^ 60 ∧ Q (.d (.int ((Nat.lcm i.natAbs j.natAbs : Nat) : Int))) μ
  | _ => False
theorem snd_lcm : SndC F rLcm fLcm := by
  intro ad H0 H vs cs μ Q R w r1 h k
  unfold fLcm at h
  split at h
  · cases r1 with
    | cons r t =>
      cases t with
      | cons r' t' =>
        cases t'; cases r; cases r'
        exact ⟨_, _, rfl, h.1, h.2.1, k (.int _) (.d (.int _)) μ ad H0 H (Gr.refl _ _ _) w (Dq.int _) h.2.2⟩
  · exact h.elim
def allB : List Cl → Option (List Bool)
  | [] => some []
  | .d (.bool b) :: r => (allB r).map (b :: ·)
  | _ :: _ => none
theorem allB_eq : ∀ {cs : List Cl} {bs : List Bool}, allB cs = some bs → cs = bs.map fun b => .d (.bool b)
  | [], bs, h => by simp [allB] at h; subst h; rfl
  | c :: r, bs, h => by
    unfold allB at h
    split at h
    · rename_i e; cases e
    · rename_i b r' e
      cases e
      simp only [Option.map_eq_some_iff] at h
      obtain ⟨es, h1, h2⟩ := h
      subst h2
      rw [allB_eq h1]; rfl
    · cases h
theorem allB_map {α : Type} (xs : List α) (g : α → Bool) : allB (xs.map fun x => .d (.bool (g x))) = some (xs.map g) := by
  induction xs with
  | nil => rfl
  | cons x xs ih => simp [allB, ih]
theorem bools_of {K : Frg} {ad : List Addr} {H0 : Hp} : ∀ {bs : List Bool} {vs : List V}, ClRs K ad H0 vs (bs.map fun b => .d (.bool b)) → vs = bs.map V.bl
  | [], _, h => by cases h; rfl
  | b :: bs, _, h => by
    cases h with
    | cons r t =>
      cases r
      rw [bools_of t]; rfl
def fAll : FC := fun cs μ Q => match cs with
  | [c] => (match listOf c μ with
    | some xs => (match allB xs with
      | some bs => Q (.d (.bool (bs.all (fun b => b)))) μ
      | none => False)
    | none => False)
  | _ => False
def fAny : FC := fun cs μ Q => match cs with
  | [c] => (match listOf c μ with
    | some xs => (match allB xs with
      | some bs => Q (.d (.bool (bs.any (fun b => b)))) μ
      | none => False)
    | none => False)
  | _ => False
theorem snd_all : SndC F (rAll F.K) fAll := by
  intro ad H0 H vs cs μ Q R w r1 h k
  unfold fAll at h
  split at h
  · cases r1 with
    | cons r t =>
      cases t
      split at h
      · rename_i xs hx
        split at h
        · rename_i bs hb
          obtain ⟨a, ws, rfl, h1, h2⟩ := list_at w r hx
          rw [allB_eq hb] at h2
          rw [bools_of h2] at h1
          exact ⟨a, bs, rfl, SqL.of h1, k (.bl _) (.d (.bool _)) μ ad H0 H (Gr.refl _ _ _) w (Dq.bl _) h⟩
        · exact h.elim
      · exact h.elim
  · exact h.elim
theorem snd_any : SndC F (rAny F.K) fAny := by
  intro ad H0 H vs cs μ Q R w r1 h k
  unfold fAny at h
  split at h
  · cases r1 with
    | cons r t =>
      cases t
      split at h
      · rename_i xs hx
        split at h
        · rename_i bs hb
          obtain ⟨a, ws, rfl, h1, h2⟩ := list_at w r hx
          rw [allB_eq hb] at h2
          rw [bools_of h2] at h1
          exact ⟨a, bs, rfl, SqL.of h1, k (.bl _) (.d (.bool _)) μ ad H0 H (Gr.refl _ _ _) w (Dq.bl _) h⟩
        · exact h.elim
      · exact h.elim
  · exact h.elim
def fTup : FC := fun cs μ Q => match cs with
  | [c] => (match cellsOf c μ with
    | some xs => (match allD xs with
      | some ds => Q (.d (.tuple ds)) μ
      | none => False)
    | none => False)
  | _ => False
theorem snd_tuple : SndC F (fun xs H Q => ∃ p ys, xs = [.ref p] ∧ ((SqL F.K H p ys ∧ ∀ l, H l = none → Q (.ref l) (upd H l (.tup ys))) ∨ (SqT F.K H p ys ∧ Q (.ref p) H))) fTup := by
  intro ad H0 H vs cs μ Q R w r1 h k
  unfold fTup at h
  split at h
  · rename_i c
    cases r1 with
    | cons r t =>
      cases t
      split at h
      · rename_i xs hx
        split at h
        · rename_i ds hd
          by_cases ht : ∃ es, c = Cl.d (.tuple es)
          · obtain ⟨es, rfl⟩ := ht
            unfold cellsOf at hx
            cases hx
            rw [allD_map] at hd
            cases hd
            cases r with
            | tup s1 d1 => exact ⟨_, _, rfl, .inr ⟨ex_t w.ex s1, k _ (.d (.tuple _)) μ ad H0 H (Gr.refl _ _ _) w (Dq.tup s1 d1) h⟩⟩
          · obtain ⟨a, ws, rfl, h1, h2⟩ := cellsL_at w r hx ht
            rw [allD_eq hd] at h2
            refine ⟨a, ws, rfl, .inl ⟨h1, fun q hq => ?_⟩⟩
            have n := w.none_of hq
            exact k _ (.d (.tuple _)) μ ad _ _ (Gr.frz w hq) (w.frz hq) (Dq.tup (SqT.of upd_same) ((clrs_dq h2).mono (Ex.upd n.2))) h
        · exact h.elim
      · exact h.elim
  · exact h.elim
def fList : FL := fun cs μ Q => match cs with
  | [c] => (match cellsOf c μ with
    | some xs => Q xs μ
    | none => False)
  | _ => False
theorem snd_list : SndCL F (fun xs H Q => ∃ p ys, xs = [.ref p] ∧ (SqL F.K H p ys ∨ SqT F.K H p ys) ∧ ∀ l, H l = none → Q (.ref l) (upd H l (.lst ys))) fList := by
  intro ad H0 H vs cs μ Q R w r1 h k
  unfold fList at h
  split at h
  · cases r1 with
    | cons r t =>
      cases t
      split at h
      · rename_i xs hx
        obtain ⟨a, ws, rfl, h1, h2⟩ := cells_at w r hx
        refine ⟨a, ws, rfl, ?_, al_new (Gr.refl _ _ _) w h2 h k⟩
        rcases h1 with h1 | h1
        · exact .inl h1
        · exact .inr h1
      · exact h.elim
  · exact h.elim
def allI : List Cl → Option (List Int)
  | [] => some []
  | .d (.int b) :: r => (allI r).map (b :: ·)
  | _ :: _ => none
theorem allI_eq : ∀ {cs : List Cl} {bs : List Int}, allI cs = some bs → cs = bs.map fun b => .d (.int b)
  | [], bs, h => by simp [allI] at h; subst h; rfl
  | c :: r, bs, h => by
    unfold allI at h
    split at h
    · rename_i e; cases e
    · rename_i b r' e
      cases e
      simp only [Option.map_eq_some_iff] at h
      obtain ⟨es, h1, h2⟩ := h
      subst h2
      rw [allI_eq h1]; rfl
    · cases h
theorem allI_map {α : Type} (xs : List α) (g : α → Int) : allI (xs.map fun x => .d (.int (g x))) = some (xs.map g) := by
  induction xs with
  | nil => rfl
  | cons x xs ih => simp [allI, ih]
theorem ints_of {K : Frg} {ad : List Addr} {H0 : Hp} : ∀ {bs : List Int} {vs : List V}, ClRs K ad H0 vs (bs.map fun b => .d (.int b)) → vs = bs.map V.int
  | [], _, h => by cases h; rfl
  | b :: bs, _, h => by
    cases h with
    | cons r t =>
      cases r
      rw [ints_of t]; rfl
/-- min, max of a list of ints -/
def fMinI : FC := fun cs μ Q => match cs with
  | [c] => (match listOf c μ with
    | some xs => (match allI xs with
      | some ns => 0 < ns.length ∧ ∀ m, m ∈ ns → (∀ y ∈ ns, m ≤ y) → Q (.d (.int m)) μ
      | none => False)
    | none => False)
  | _ => False
def fMaxI : FC := fun cs μ Q => match cs with
  | [c] => (match listOf c μ with
    | some xs => (match allI xs with
      | some ns => 0 < ns.length ∧ ∀ m, m ∈ ns → (∀ y ∈ ns, y ≤ m) → Q (.d (.int m)) μ
      | none => False)
    | none => False)
  | _ => False
theorem snd_minI : SndC F (rMin F.K) fMinI := by
  intro ad H0 H vs cs μ Q R w r1 h k
  unfold fMinI at h
  split at h
  · cases r1 with
    | cons r t =>
      cases t
      split at h
      · rename_i xs hx
        split at h
        · rename_i bs hb
          obtain ⟨a, ws, rfl, h1, h2⟩ := list_at w r hx
          rw [allI_eq hb] at h2
          rw [ints_of h2] at h1
          exact ⟨a, bs, rfl, SqL.of h1, h.1, fun m hm hl => k (.int _) (.d (.int _)) μ ad H0 H (Gr.refl _ _ _) w (Dq.int _) (h.2 m hm hl)⟩
        · exact h.elim
      · exact h.elim
  · exact h.elim
theorem snd_maxI : SndC F (rMax F.K) fMaxI := by
  intro ad H0 H vs cs μ Q R w r1 h k
  unfold fMaxI at h
  split at h
  · cases r1 with
    | cons r t =>
      cases t
      split at h
      · rename_i xs hx
        split at h
        · rename_i bs hb
          obtain ⟨a, ws, rfl, h1, h2⟩ := list_at w r hx
          rw [allI_eq hb] at h2
          rw [ints_of h2] at h1
          exact ⟨a, bs, rfl, SqL.of h1, h.1, fun m hm hl => k (.int _) (.d (.int _)) μ ad H0 H (Gr.refl _ _ _) w (Dq.int _) (h.2 m hm hl)⟩
        · exact h.elim
      · exact h.elim
  · exact h.elim
/-- list(range(n)) -/
def aLRg (a : AX) : AA := fun er ρ μ Q => a er ρ μ fun c μ1 => match c with
  | .d (.int n) => 0 ≤ n ∧ n ≤ 1000 ∧ Q ((List.range n.toNat).map fun i => .d (.int (i : Nat))) μ1
  | _ => False
theorem rg_cls {K : Frg} {ad : List Addr} {H0 : Hp} : ∀ l : List Nat, ClRs K ad H0 (l.map fun i => V.int (0 + (i : Nat))) (l.map fun i => .d (.int (i : Nat)))
  | [] => .nil
  | i :: l => .cons (by show Dq K H0 (V.int (0 + (i : Nat))) (.int (i : Nat)); rw [Int.zero_add]; exact Dq.int _) (rg_cls l)
theorem al_listRange {p1 q1 : Pos} (hgl : GlF F "list") (hml : F.mg "list" = none) (hg : GlF F "range") (hm : F.mg "range" = none) (ha : AE F a A) (na : ∀ X : Cx, starEach [a] X.env = (false, eval a X.env) :: starEach [] X.env)
    (nb : ∀ X : Cx, starEach [.Call (.Name "range" q1) [a] [] p1] X.env = (false, eval (.Call (.Name "range" q1) [a] [] p1) X.env) :: starEach [] X.env) :
    AL F (.Call (.Name "list" p) [.Call (.Name "range" q1) [a] [] p1] [] pos) (aLRg A) := by
  obtain ⟨t, pa, s⟩ := ha
  refine ⟨_, fun X h => pe_listRg h.calm (gl_of h hgl) (by rw [h.mg]; exact hml) (prg_1 (gl_of h hg) (by rw [h.mg]; exact hm) (pa X h) (na X)) (nb X), fun ad H0 H σ ρ μ er Q R w sl el h k => ?_⟩
  refine s ad H0 H σ ρ μ er _ _ w sl el h fun v c μ1 ad1 H01 H1 g1 w1 r1 h1 => ?_
  split at h1
  · rename_i n
    cases r1
    refine ⟨n, rfl, RgOk.of_le (Int.le_refl 0) (by omega) (by omega) h1.1, ?_⟩
    refine al_new g1 w1 ?_ h1.2.2 k
    unfold rgV
    have e : (n - 0).toNat = n.toNat := by omega
    rw [e]
    exact rg_cls _
  · exact h1.elim
end
end Jh

set_option Elab.async false
set_option linter.all false
set_option maxRecDepth 100000
set_option maxHeartbeats 2000000
namespace Jh
open PySem PySem.Spec PyProof.Rows L2

/-! ### what is walked -/
abbrev AI := Er → En → Sto → (List Cl → (Sto → Prop) → Sto → Prop) → Prop
abbrev PreE (ad : List Addr) (H0 : Hp) (ad1 : List Addr) (H01 : Hp) : Prop := (∀ (j : Nat) (a : Addr), ad[j]? = some a → ad1[j]? = some a) ∧ Ex H0 H01
theorem Gr.preE {ad ad1 : List Addr} {H0 H H01 H1 : Hp} (g : Gr ad H0 H ad1 H01 H1) : PreE ad H0 ad1 H01 := ⟨fun _ _ q => g.at_ q, g.ex0⟩
structure ItOk (K : Frg) (ad : List Addr) (H0 : Hp) (J : It) (xs : List Cl) (st : Sto → Prop) : Prop where
  go : ∀ i ad1 H01 H1 μ1, PreE ad H0 ad1 H01 → Wr K ad1 H01 H1 μ1 → st μ1 → i < xs.length → J.go i H1
  yld : ∀ i ad1 H01 H1 μ1 x H', PreE ad H0 ad1 H01 → Wr K ad1 H01 H1 μ1 → st μ1 → J.yld i H1 x H' → i < xs.length → H' = H1 ∧ ∃ c, xs[i]? = some c ∧ ClR K ad1 H01 x c
  stop : ∀ ad1 H01 H1 μ1, PreE ad H0 ad1 H01 → Wr K ad1 H01 H1 μ1 → st μ1 → J.stop xs.length H1
def SndI (F : Fx) (wi : TI) (a : AI) : Prop := ∀ (ad : List Addr) (H0 H : Hp) (σ : L2.St) (ρ : En) (μ : Sto) (er : Er) (Q : List Cl → (Sto → Prop) → Sto → Prop) (R : It → Hp → Prop), Wr F.K ad H0 H μ → SlR F.K ad H0 σ ρ → ErL F ad H0 H er → a er ρ μ Q →
  (∀ J xs st μ' ad' H0' H', Gr ad H0 H ad' H0' H' → Wr F.K ad' H0' H' μ' → ItOk F.K ad' H0' J xs st → Q xs st μ' → R J H') → wi σ H R
structure AIs (F : Fx) (tg e : Expr) (a : AI) : Prop where
  ex : ∃ wi, (∀ X, Fok F X → PI X tg e wi) ∧ SndI F wi a
abbrev AG := Cl → En → Sto → (En → Sto → Prop) → Prop
abbrev AGs := List Cl → En → Sto → (En → Sto → Prop) → Prop

def iSeq (K : Frg) (tl : TE) : TI := fun σ H R => tl σ H fun x H1 => (∃ a, x = .ref a ∧ (∃ xs, SqL K H1 a xs) ∧ R (Itl K a) H1) ∨ (∃ a, x = .ref a ∧ (∃ xs, SqT K H1 a xs) ∧ R (Itt K a) H1)
theorem pi_seq {X : Cx} {tg l : Expr} {tl : TE} (hl : PE X l tl) : PI X tg l (iSeq X.K tl) := by
  refine ⟨fun pins s σ H R I h => ?_⟩
  refine thn (hl.run pins s σ H _ I h) fun v s1 ⟨x, H1, I1, r1, q1⟩ => ?_
  rcases q1 with ⟨a, e, ⟨xs, hq⟩, q⟩ | ⟨a, e, ⟨xs, hq⟩, q⟩
  · subst e
    cases r1
    obtain ⟨its, rv, p, hz⟩ := I1.list hq
    refine wpAny_pyIter_list p.isList ?_
    refine ⟨s1.heap.objs.size, [s1.heap.objs.size], _, _, H1, rfl, I1.kept (t' := s1.toks) fun b o e => Heap.get?_push_of_some _ e, turn_list a _, ⟨_, Heap.get?_push_size _ rfl, rfl, rfl⟩, fun b hb => ?_, q⟩
    have e : b = s1.heap.objs.size := by simpa using hb
    subst e
    exact I1.fpOk (Nat.le_refl _) (I1.hok.fresh (Nat.le_refl _))
  · subst e
    cases r1
    obtain ⟨its, rv, p, hz⟩ := I1.tuple hq
    refine wpAny_pyIter_tuple (show s1.heap.IsTuple a its.toArray from p) ?_
    refine ⟨s1.heap.objs.size, [s1.heap.objs.size], _, _, H1, rfl, I1.kept (t' := s1.toks) fun b o e => Heap.get?_push_of_some _ e, turn_tuple a _, ⟨_, Heap.get?_push_size _ rfl, rfl, rfl⟩, fun b hb => ?_, q⟩
    have e : b = s1.heap.objs.size := by simpa using hb
    subst e
    exact I1.fpOk (Nat.le_refl _) (I1.hok.fresh (Nat.le_refl _))

theorem itl_ok {K : Frg} {ad : List Addr} {H0 : Hp} {p : Addr} {xs : List Cl} {st : Sto → Prop} (h : ∀ ad1 H01 H1 μ1, PreE ad H0 ad1 H01 → Wr K ad1 H01 H1 μ1 → st μ1 → ∃ ws, SqL K H1 p ws ∧ ClRs K ad1 H01 ws xs) : ItOk K ad H0 (Itl K p) xs st where
  go := fun i ad1 H01 H1 μ1 pe w hs hi => by
    obtain ⟨ws, h1, h2⟩ := h ad1 H01 H1 μ1 pe w hs
    exact ⟨ws, ws[i]'(by rw [Paired.len h2]; exact hi), h1, List.getElem?_eq_getElem _⟩
  yld := fun i ad1 H01 H1 μ1 x H' pe w hs y hi => by
    obtain ⟨ws, h1, h2⟩ := h ad1 H01 H1 μ1 pe w hs
    exact ⟨y.1, Paired.getL h2 (y.2 ws h1)⟩
  stop := fun ad1 H01 H1 μ1 pe w hs => by
    obtain ⟨ws, h1, h2⟩ := h ad1 H01 H1 μ1 pe w hs
    exact ⟨ws, h1, by rw [Paired.len h2]; exact Nat.le_refl _⟩
theorem itt_ok {K : Frg} {ad : List Addr} {H0 : Hp} {p : Addr} {xs : List Cl} {st : Sto → Prop} (h : ∀ ad1 H01 H1 μ1, PreE ad H0 ad1 H01 → Wr K ad1 H01 H1 μ1 → st μ1 → ∃ ws, SqT K H1 p ws ∧ ClRs K ad1 H01 ws xs) : ItOk K ad H0 (Itt K p) xs st where
  go := fun i ad1 H01 H1 μ1 pe w hs hi => by
    obtain ⟨ws, h1, h2⟩ := h ad1 H01 H1 μ1 pe w hs
    exact ⟨ws, ws[i]'(by rw [Paired.len h2]; exact hi), h1, List.getElem?_eq_getElem _⟩
  yld := fun i ad1 H01 H1 μ1 x H' pe w hs y hi => by
    obtain ⟨ws, h1, h2⟩ := h ad1 H01 H1 μ1 pe w hs
    exact ⟨y.1, Paired.getL h2 (y.2 ws h1)⟩
  stop := fun ad1 H01 H1 μ1 pe w hs => by
    obtain ⟨ws, h1, h2⟩ := h ad1 H01 H1 μ1 pe w hs
    exact ⟨ws, h1, by rw [Paired.len h2]; exact Nat.le_refl _⟩
section
variable {F : Fx} {e a b tg : Expr} {A B : AX} {pos : Pos}
/-- over a list or a tuple -/
def stOf (c : Cl) (xs : List Cl) : Sto → Prop := match c with
  | .m j => fun μ => μ[j]? = some (.lst xs)
  | _ => fun _ => True
def aSeqI (a : AX) : AI := fun er ρ μ Q => a er ρ μ fun c μ1 => match cellsOf c μ1 with
  | some xs => Q xs (stOf c xs) μ1
  | none => False
theorem ai_seq (ha : AE F a A) : AIs F tg a (aSeqI A) := by
  obtain ⟨t, p, s⟩ := ha
  refine ⟨iSeq F.K t, fun X h => ?_, fun ad H0 H σ ρ μ er Q R w sl el h k => ?_⟩
  · have := pi_seq (X := X) (tg := tg) (p X h)
    rw [h.K] at this; exact this
  · refine s ad H0 H σ ρ μ er _ _ w sl el h fun v c μ1 ad1 H01 H1 g1 w1 r1 h1 => ?_
    split at h1
    · rename_i xs hx
      cases c with
      | d y =>
        cases r1 with
        | lst z1 z2 =>
          unfold cellsOf at hx
          cases hx
          exact .inl ⟨_, rfl, ⟨_, SqL.of (w1.ex _ _ z1)⟩, k _ _ _ μ1 ad1 H01 H1 g1 w1 (itl_ok fun ad2 H02 H2 μ2 pe w2 _ => ⟨_, SqL.of (w2.ex _ _ (pe.2 _ _ z1)), dq_clrs (z2.mono pe.2)⟩) h1⟩
        | tup z1 z2 =>
          unfold cellsOf at hx
          cases hx
          exact .inr ⟨_, rfl, ⟨_, ex_t w1.ex z1⟩, k _ _ _ μ1 ad1 H01 H1 g1 w1 (itt_ok fun ad2 H02 H2 μ2 pe w2 _ => ⟨_, ex_t w2.ex (ex_t pe.2 z1), dq_clrs (z2.mono pe.2)⟩) h1⟩
        | _ => simp [cellsOf] at hx
      | m j =>
        have at2 : ∀ μ, cellsOf (.m j) μ = some xs → μ[j]? = some (.lst xs) := fun μ h => by
          unfold cellsOf at h
          simp only at h
          split at h
          · rename_i cs hc
            cases h; exact hc
          · cases h
        obtain ⟨p, hp, rfl⟩ := r1
        obtain ⟨ho, q1, q2⟩ := w1.at_ j p _ hp (at2 _ hx)
        cases ho <;> first | exact q2.elim | skip
        refine .inl ⟨p, rfl, ⟨_, SqL.of q1⟩, k _ xs _ μ1 ad1 H01 H1 g1 w1 (itl_ok fun ad2 H02 H2 μ2 pe w2 hst => ?_) h1⟩
        obtain ⟨ho2, q3, q4⟩ := w2.at_ j p _ (pe.1 _ _ hp) hst
        cases ho2 <;> first | exact q4.elim | exact ⟨_, SqL.of q3, q4⟩
      | v y => simp [cellsOf] at hx
      | s ns =>
        obtain ⟨p, rfl, hp⟩ := r1
        unfold cellsOf at hx
        cases hx
        have z : ∀ (ad : List Addr) (H0 : Hp) (ns : List Int), ClRs F.K ad H0 (ns.map V.int) (ns.map fun i => Cl.d (.int i)) := fun ad H0 ns => by
          induction ns with
          | nil => exact .nil
          | cons n ns ih => exact .cons (Dq.int n) ih
        exact .inl ⟨p, rfl, ⟨_, ex_l w1.ex hp⟩, k _ _ _ μ1 ad1 H01 H1 g1 w1 (itl_ok fun ad2 H02 H2 μ2 pe w2 _ => ⟨_, ex_l w2.ex (ex_l pe.2 hp), z _ _ ns⟩) h1⟩
    · exact h1.elim
/-- over a text -/
def aStrI (a : AX) : AI := fun er ρ μ Q => a er ρ μ fun c μ1 => match c with
  | .d (.str z) => Q (z.cps.toList.map fun i => .d (.str ⟨#[i]⟩)) (fun _ => True) μ1
  | _ => False
theorem ai_str (ha : AE F a A) : AIs F tg a (aStrI A) := by
  obtain ⟨t, p, s⟩ := ha
  refine ⟨iStr t, fun X h => pi_str (p X h), fun ad H0 H σ ρ μ er Q R w sl el h k => ?_⟩
  refine s ad H0 H σ ρ μ er _ _ w sl el h fun v c μ1 ad1 H01 H1 g1 w1 r1 h1 => ?_
  split at h1
  · rename_i z
    cases r1
    refine ⟨z, rfl, k _ _ _ μ1 ad1 H01 H1 g1 w1 ⟨fun i _ _ _ _ _ _ _ hi => ?_, fun i _ _ _ _ x H' _ _ _ y hi => ?_, fun _ _ _ _ _ _ _ => ?_⟩ h1⟩
    · have : i < z.cps.size := by simpa using hi
      exact this
    · obtain ⟨e, c, hc, rfl⟩ := y
      refine ⟨e, .d (.str ⟨#[c]⟩), ?_, Dq.str _⟩
      rw [List.getElem?_map]
      have : z.cps.toList[i]? = some c := by simpa using hc
      rw [this]; rfl
    · show z.cps.size ≤ _
      simp
  · exact h1.elim
/-- over range(n), range(m, n) -/
def rgC (lo : Int) (n : Nat) : List Cl := (List.range n).map fun i => .d (.int (lo + (i : Nat)))
theorem itr_ok {K : Frg} {ad : List Addr} {H0 : Hp} (lo : Int) (n : Nat) : ItOk K ad H0 (Itr lo n) (rgC lo n) (fun _ => True) where
  go := fun i _ _ _ _ _ _ _ hi => by
    unfold rgC at hi
    have : i < n := by simpa using hi
    exact this
  yld := fun i _ _ _ _ x H' _ _ _ y hi => by
    obtain ⟨e, rfl⟩ := y
    unfold rgC at hi
    have : i < n := by simpa using hi
    refine ⟨e, .d (.int (lo + (i : Nat))), ?_, Dq.int _⟩
    unfold rgC
    rw [List.getElem?_map, List.getElem?_range this]; rfl
  stop := fun _ _ _ _ _ _ _ => by
    show n ≤ (rgC lo n).length
    unfold rgC; simp
def aRg1 (r : AA) : AI := fun er ρ μ Q => r er ρ μ fun cs μ1 => match cs with
  | [.d (.int n)] => -1000000 ≤ n ∧ n ≤ 1000000 ∧ Q (rgC 0 n.toNat) (fun _ => True) μ1
  | _ => False
theorem ai_rg1 {p : Pos} {AR : AA} (hg : GlF F "range") (hm : F.mg "range" = none) (ha : AAs F [a] AR) (hs : ∀ X : Cx, starEach [a] X.env = [(false, eval a X.env)]) : AIs F tg (.Call (.Name "range" p) [a] [] pos) (aRg1 AR) := by
  obtain ⟨t, pa, s⟩ := ha
  refine ⟨iRng1 t, fun X h => pi_range1 (gl_of h hg) (by rw [h.mg]; exact hm) (pa X h) (hs X), fun ad H0 H σ ρ μ er Q R w sl el h k => ?_⟩
  refine s ad H0 H σ ρ μ er _ _ w sl el h fun vs cs μ1 ad1 H01 H1 g1 w1 r1 h1 => ?_
  split at h1
  · rename_i n
    cases r1 with
    | cons r t =>
      cases t; cases r
      exact ⟨n, rfl, by omega, by omega, k _ _ _ μ1 ad1 H01 H1 g1 w1 (itr_ok 0 _) h1.2.2⟩
  · exact h1.elim
def aRg2 (r : AA) : AI := fun er ρ μ Q => r er ρ μ fun cs μ1 => match cs with
  | [.d (.int m), .d (.int n)] => -1000000 ≤ m ∧ m ≤ 1000000 ∧ -1000000 ≤ n ∧ n ≤ 1000000 ∧ Q (rgC m (n - m).toNat) (fun _ => True) μ1
  | _ => False
theorem ai_rg2 {p : Pos} {AR : AA} (hg : GlF F "range") (hm : F.mg "range" = none) (ha : AAs F [a, b] AR) (hs1 : ∀ X : Cx, starEach [a, b] X.env = [(false, eval a X.env), (false, eval b X.env)]) (hs2 : ∀ X : Cx, starEach [b] X.env = [(false, eval b X.env)]) : AIs F tg (.Call (.Name "range" p) [a, b] [] pos) (aRg2 AR) := by
  obtain ⟨t, pa, s⟩ := ha
  refine ⟨iRng2 t, fun X h => pi_range2 (gl_of h hg) (by rw [h.mg]; exact hm) (pa X h) (hs1 X) (hs2 X), fun ad H0 H σ ρ μ er Q R w sl el h k => ?_⟩
  refine s ad H0 H σ ρ μ er _ _ w sl el h fun vs cs μ1 ad1 H01 H1 g1 w1 r1 h1 => ?_
  split at h1
  · rename_i m n
    cases r1 with
    | cons r t =>
      cases t with
      | cons r' t' =>
        cases t'; cases r; cases r'
        exact ⟨m, n, rfl, ⟨by omega, by omega, by omega, by omega⟩, k _ _ _ μ1 ad1 H01 H1 g1 w1 (itr_ok m _) h1.2.2.2.2⟩
  · exact h1.elim

/-! ### statements -/
structure AD where
  nx : En → Sto → Prop
  rt : Cl → Sto → Prop
  bk : En → Sto → Prop
  ct : En → Sto → Prop
  er : Er
abbrev ASt := AD → En → Sto → Prop
structure Lnk (F : Fx) (ad : List Addr) (H0 H : Hp) (A : AD) (D : Ends) : Prop where
  nx : ∀ σ' ρ' μ' ad' H0' H', Gr ad H0 H ad' H0' H' → Wr F.K ad' H0' H' μ' → SlR F.K ad' H0' σ' ρ' → A.nx ρ' μ' → D.nx σ' H'
  rt : ∀ v c μ' ad' H0' H', Gr ad H0 H ad' H0' H' → Wr F.K ad' H0' H' μ' → ClR F.K ad' H0' v c → A.rt c μ' → D.rt v H'
  bk : ∀ σ' ρ' μ' ad' H0' H', Gr ad H0 H ad' H0' H' → Wr F.K ad' H0' H' μ' → SlR F.K ad' H0' σ' ρ' → A.bk ρ' μ' → D.bk σ' H'
  ct : ∀ σ' ρ' μ' ad' H0' H', Gr ad H0 H ad' H0' H' → Wr F.K ad' H0' H' μ' → SlR F.K ad' H0' σ' ρ' → A.ct ρ' μ' → D.ct σ' H'
  er : ErL F ad H0 H A.er
theorem Lnk.step {ad ad' : List Addr} {H0 H H0' H' : Hp} {A : AD} {D : Ends} (l : Lnk F ad H0 H A D) (g : Gr ad H0 H ad' H0' H') : Lnk F ad' H0' H' A D :=
  ⟨fun σ' ρ' μ' ad'' H0'' H'' g' => l.nx σ' ρ' μ' ad'' H0'' H'' (g.trans g'), fun v c μ' ad'' H0'' H'' g' => l.rt v c μ' ad'' H0'' H'' (g.trans g'), fun σ' ρ' μ' ad'' H0'' H'' g' => l.bk σ' ρ' μ' ad'' H0'' H'' (g.trans g'),
    fun σ' ρ' μ' ad'' H0'' H'' g' => l.ct σ' ρ' μ' ad'' H0'' H'' (g.trans g'), l.er.step g⟩
def SndS (F : Fx) (ts : TS) (a : ASt) : Prop := ∀ (ad : List Addr) (H0 H : Hp) (σ : L2.St) (ρ : En) (μ : Sto) (A : AD) (D : Ends), Wr F.K ad H0 H μ → SlR F.K ad H0 σ ρ → a A ρ μ → Lnk F ad H0 H A D → ts D σ H
structure AS (F : Fx) (st : Stmt) (a : ASt) : Prop where
  ex : ∃ ts, (∀ X, Fok F X → PS X st ts) ∧ SndS F ts a
structure ASs (F : Fx) (st : List Stmt) (a : ASt) : Prop where
  ex : ∃ ts, (∀ X, Fok F X → PSs X st ts) ∧ SndS F ts a
def SndG (F : Fx) (g : TG) (a : AG) : Prop := ∀ (ad : List Addr) (H0 H : Hp) (σ : L2.St) (ρ : En) (μ : Sto) (v : V) (c : Cl) (Q : En → Sto → Prop) (R : L2.St → Hp → Prop), Wr F.K ad H0 H μ → SlR F.K ad H0 σ ρ → ClR F.K ad H0 v c → a c ρ μ Q →
  (∀ σ' ρ' μ' ad' H0' H', Gr ad H0 H ad' H0' H' → Wr F.K ad' H0' H' μ' → SlR F.K ad' H0' σ' ρ' → Q ρ' μ' → R σ' H') → g v σ H R
def SndGs (F : Fx) (g : TGs) (a : AGs) : Prop := ∀ (ad : List Addr) (H0 H : Hp) (σ : L2.St) (ρ : En) (μ : Sto) (vs : List V) (cs : List Cl) (Q : En → Sto → Prop) (R : L2.St → Hp → Prop), Wr F.K ad H0 H μ → SlR F.K ad H0 σ ρ → ClRs F.K ad H0 vs cs → a cs ρ μ Q →
  (∀ σ' ρ' μ' ad' H0' H', Gr ad H0 H ad' H0' H' → Wr F.K ad' H0' H' μ' → SlR F.K ad' H0' σ' ρ' → Q ρ' μ' → R σ' H') → g vs σ H R
structure AGt (F : Fx) (tg : Expr) (a : AG) : Prop where
  ex : ∃ g, (∀ X, Fok F X → PG X tg g) ∧ SndG F g a
structure AGts (F : Fx) (tg : List Expr) (a : AGs) : Prop where
  ex : ∃ g, (∀ X, Fok F X → PGs X tg g) ∧ SndGs F g a
def gN (i : Nat) : AG := fun c ρ μ Q => Q (ρ.set i (some c)) μ
theorem ag_name (i : Nat) {x : Str} (hN : F.N.Nodup) (hi : F.N[i]? = some x) (hx : Loc F.sc x) (hf : F.fn x = true ∨ F.sc.names.lookup x = some .local) : AGt F (.Name x pos) (gN i) :=
  ⟨gName i, fun X h => pg_name (by rw [h.N]; exact hN) (by rw [h.N]; exact hi) (by rw [h.sc]; exact hx) (by rw [h.fn, h.sc]; exact hf), fun ad H0 H σ ρ μ v c Q R w sl r h k =>
    k _ _ μ ad H0 H (Gr.refl _ _ _) w (Paired.set (F := SlR1 F.K ad H0) (a := some v) (b := some c) r i sl) h⟩
def gsNil : AGs := fun cs ρ μ Q => match cs with
  | [] => Q ρ μ
  | _ => False
def gsCons (g : AG) (r : AGs) : AGs := fun cs ρ μ Q => match cs with
  | c :: cs => g c ρ μ fun ρ1 μ1 => r cs ρ1 μ1 Q
  | [] => False
theorem ags_nil : AGts F [] gsNil := ⟨gNil, fun _ _ => pgs_nil, fun ad H0 H σ ρ μ vs cs Q R w sl r h k => by
  unfold gsNil at h
  split at h
  · cases r; exact ⟨rfl, k σ ρ μ ad H0 H (Gr.refl _ _ _) w sl h⟩
  · exact h.elim⟩
theorem ags_cons {tgs : List Expr} {G : AG} {GS : AGs} (h1 : AGt F tg G) (h2 : AGts F tgs GS) (hs : ∀ X : Cx, (assignEach (tg :: tgs) X.env).map (·.2) = assign tg X.env :: (assignEach tgs X.env).map (·.2)) : AGts F (tg :: tgs) (gsCons G GS) := by
  obtain ⟨g, p, s⟩ := h1
  obtain ⟨g2, p2, s2⟩ := h2
  refine ⟨_, fun X h => pgs_cons (p X h) (p2 X h) (hs X), fun ad H0 H σ ρ μ vs cs Q R w sl r h k => ?_⟩
  unfold gsCons at h
  split at h
  · cases r with
    | cons r1 r2 =>
      refine ⟨_, _, rfl, ?_⟩
      refine s ad H0 H σ ρ μ _ _ _ _ w sl r1 h fun σ1 ρ1 μ1 ad1 H01 H1 g1 w1 sl1 q1 => ?_
      exact s2 ad1 H01 H1 σ1 ρ1 μ1 _ _ _ _ w1 sl1 (g1.cls r2) q1 fun σ2 ρ2 μ2 ad2 H02 H2 g2 w2 sl2 q2 => k σ2 ρ2 μ2 ad2 H02 H2 (g1.trans g2) w2 sl2 q2
  · exact h.elim
def gTu (n : Nat) (r : AGs) : AG := fun c ρ μ Q => match c with
  | .d (.tuple ds) => ds.length = n ∧ r (ds.map .d) ρ μ Q
  | _ => False
theorem ag_tup {tgs : List Expr} {GS : AGs} {k n : Nat} (h2 : AGts F tgs GS) (hn : ∀ X : Cx, (assignEach tgs X.env).length = n) (hst : ∀ X : Cx, (assignEach tgs X.env).findIdx? (·.1) = none) : AGt F (.Tuple tgs k pos) (gTu n GS) := by
  obtain ⟨g2, p2, s2⟩ := h2
  refine ⟨gTup F.K n g2, fun X h => ?_, fun ad H0 H σ ρ μ v c Q R w sl r h k => ?_⟩
  · have := pg_tup (X := X) (k := k) (pos := pos) h.calm (p2 X h) (hn X) (hst X)
    rw [h.K] at this; exact this
  · unfold gTu at h
    split at h
    · cases r with
      | tup z1 z2 =>
        exact ⟨_, _, rfl, ex_t w.ex z1, by rw [z2.length]; exact h.1, s2 ad H0 H σ ρ μ _ _ Q R w sl (dq_clrs z2) h.2 k⟩
    · exact h.elim
/-- xs[i] = v -/
def gIx (a b : AX) : AG := fun c ρ μ Q => a (fun _ _ => False) ρ μ fun x μ1 => b (fun _ _ => False) ρ μ1 fun y μ2 => match x, y with
  | .m j, .d (.int i) => (match μ2[j]? with
    | some (.lst cs) => (match ixN cs.length i with
      | some n => Q ρ (μ2.set j (.lst (cs.set n c)))
      | none => False)
    | _ => False)
  | _, _ => False
theorem erl_false {ad : List Addr} {H0 H : Hp} : ErL F ad H0 H (fun _ _ => False) := fun _ _ _ _ _ _ _ h => h.elim
theorem ag_ix {c : Expr} (ha : AE F a A) (hb : AE F b B) (hs : ∀ (X : Cx) v, assign (.Subscript a b pos) X.env v = (do
      let ov ← holding [v] (eval a X.env)
      let iv ← holding [v, ov] (eval b X.env)
      standAt pos
      holding [v, ov, iv] (setItem ov iv v)
      release [v, ov, iv] [])) : AGt F (.Subscript a b pos) (gIx A B) := by
  obtain ⟨ta, pa, sa⟩ := ha
  obtain ⟨tb, pb, sb⟩ := hb
  refine ⟨_, fun X h => pg_sub (pa X h) (pb X h) set_list (hs X), fun ad H0 H σ ρ μ v c Q R w sl r h k => ?_⟩
  refine sa ad H0 H σ ρ μ _ _ _ w sl erl_false h fun v1 c1 μ1 ad1 H01 H1 g1 w1 r1 h1 => ?_
  refine sb ad1 H01 H1 σ ρ μ1 _ _ _ w1 (g1.sl sl) erl_false h1 fun v2 c2 μ2 ad2 H02 H2 g2 w2 r2 h2 => ?_
  split at h2
  · rename_i j i
    split at h2
    · rename_i cs hj
      split at h2
      · rename_i n hn
        cases r2
        obtain ⟨p, hp, rfl⟩ := g2.cl r1
        obtain ⟨ho, q1, q2⟩ := w2.at_ j p _ hp hj
        cases ho with
        | lst vs =>
          refine ⟨p, vs, i, n, rfl, rfl, q1, by rw [Paired.len q2]; exact hn, ?_⟩
          have r3 : ClR F.K ad2 H02 v c := (g1.trans g2).cl r
          exact k σ ρ _ ad2 H02 _ ((g1.trans g2).trans (Gr.set w2 hp)) (w2.set hp (show MoR F.K ad2 H02 (.lst (vs.set n v)) (.lst (cs.set n c)) from Paired.set r3 n q2)) ((g1.trans g2).sl sl) h2
        | _ => exact q2.elim
      · exact h2.elim
    · exact h2.elim
  · exact h2.elim
end
end Jh

set_option Elab.async false
set_option linter.all false
set_option maxRecDepth 100000
set_option maxHeartbeats 2000000
namespace Jh
open PySem PySem.Spec PyProof.Rows L2

section
variable {F : Fx} {e a b tg : Expr} {A B : AX} {pos : Pos} {st : Stmt} {rest body orelse : List Stmt} {S T : ASt} {TA : AT}
def sNext : ASt := fun D ρ μ => D.nx ρ μ
def sSeq (s t : ASt) : ASt := fun D ρ μ => s { D with nx := fun ρ' μ' => t D ρ' μ' } ρ μ
theorem ass_nil : ASs F [] sNext := ⟨_, fun _ _ => pss_nil, fun ad H0 H σ ρ μ A D w sl h l => l.nx σ ρ μ ad H0 H (Gr.refl _ _ _) w sl h⟩
theorem ass_cons (h1 : AS F st S) (h2 : ASs F rest T) : ASs F (st :: rest) (sSeq S T) := by
  obtain ⟨t, p, s⟩ := h1
  obtain ⟨t2, p2, s2⟩ := h2
  refine ⟨_, fun X h => pss_cons (p X h) (p2 X h), fun ad H0 H σ ρ μ A D w sl h l => ?_⟩
  refine s ad H0 H σ ρ μ { A with nx := fun ρ' μ' => T A ρ' μ' } { D with nx := t2 D } w sl h ⟨fun σ' ρ' μ' ad' H0' H' g w' sl' q => ?_, l.rt, l.bk, l.ct, l.er⟩
  exact s2 ad' H0' H' σ' ρ' μ' A D w' sl' q (l.step g)
theorem ass_one (h1 : AS F st S) : ASs F [st] S := by
  obtain ⟨t, p, s⟩ := h1
  exact ⟨_, fun X h => pss_one (p X h), s⟩
/-- never reached -/
def sNever : ASt := fun _ _ _ => False
theorem as_never : AS F st sNever := ⟨tNever, fun _ _ => ps_never, fun _ _ _ _ _ _ _ _ _ _ h _ => h.elim⟩
/-- a store -/
def sAsg (a : AX) (g : AG) : ASt := fun D ρ μ => a D.er ρ μ fun c μ1 => g c ρ μ1 D.nx
theorem as_asg {G : AG} (ha : AE F e A) (hg : AGt F tg G) (hs : ∀ X : Cx, swapsWithSole [tg] e pos.line X.env = pure false) (hw : ∀ X, Fok F X → swappedStores [tg] e X.env = pure none) (h1 : ∀ X : Cx, (assignEach [tg] X.env).map (·.2) = [assign tg X.env]) : AS F (.Assign [tg] e pos) (sAsg A G) := by
  obtain ⟨t, p, s⟩ := ha
  obtain ⟨g, pg, sg⟩ := hg
  refine ⟨_, fun X h => ps_asg (p X h) (pg X h) (hs X) (hw X h) (h1 X), fun ad H0 H σ ρ μ A D w sl h l => ?_⟩
  refine s ad H0 H σ ρ μ A.er _ _ w sl l.er h fun v c μ1 ad1 H01 H1 g1 w1 r1 h1 => ?_
  exact sg ad1 H01 H1 σ ρ μ1 v c _ _ w1 (g1.sl sl) r1 h1 fun σ2 ρ2 μ2 ad2 H02 H2 g2 w2 sl2 q2 => l.nx σ2 ρ2 μ2 ad2 H02 H2 (g1.trans g2) w2 sl2 q2
/-- a, b = e1, e2 : both names' values, no tuple between -/
def sPar (i j : Nat) (r : AA) : ASt := fun D ρ μ => r D.er ρ μ fun cs μ1 => match cs with
  | [c, c2] => D.nx ((ρ.set i (some c)).set j (some c2)) μ1
  | _ => False
theorem as_par {i j : Nat} {x y : Str} {e1 e2 : Expr} {AR : AA} {px py pt : Pos} {kt k2 : Nat} {pt2 : Pos}
    (hp : ∀ X t, Fok F X → PA X [e1, e2] t → PS X (.Assign [.Tuple [.Name x px, .Name y py] kt pt] (.Tuple [e1, e2] k2 pt2) pos) (tPar i j t)) (ha : AAs F [e1, e2] AR) : AS F (.Assign [.Tuple [.Name x px, .Name y py] kt pt] (.Tuple [e1, e2] k2 pt2) pos) (sPar i j AR) := by
  obtain ⟨t, p, s⟩ := ha
  refine ⟨tPar i j t, fun X h => hp X t h (p X h), fun ad H0 H σ ρ μ A D w sl h l => ?_⟩
  refine s ad H0 H σ ρ μ A.er _ _ w sl l.er h fun vs cs μ1 ad1 H01 H1 g1 w1 r1 h1 => ?_
  split at h1
  · cases r1 with
    | cons r t =>
      cases t with
      | cons r' t' =>
        cases t'
        exact ⟨_, _, rfl, l.nx _ _ μ1 ad1 H01 H1 g1 w1 (Paired.set (F := SlR1 F.K ad1 H01) (a := some _) (b := some _) r' j (Paired.set (F := SlR1 F.K ad1 H01) (a := some _) (b := some _) r i (g1.sl sl))) h1⟩
  · exact h1.elim
/-- e as a statement -/
def sExp (a : AX) : ASt := fun D ρ μ => a D.er ρ μ fun _ μ1 => D.nx ρ μ1
theorem as_expr (ha : AE F e A) (hs : ∀ X : Cx, swapsWith e none pos.line X.env = pure false) : AS F (.Expr e pos) (sExp A) := by
  obtain ⟨t, p, s⟩ := ha
  refine ⟨_, fun X h => ps_expr (p X h) (hs X), fun ad H0 H σ ρ μ A D w sl h l => ?_⟩
  exact s ad H0 H σ ρ μ A.er _ _ w sl l.er h fun v c μ1 ad1 H01 H1 g1 w1 r1 h1 => l.nx σ ρ μ1 ad1 H01 H1 g1 w1 (g1.sl sl) h1
def sRet (a : AX) : ASt := fun D ρ μ => a D.er ρ μ D.rt
theorem as_ret (ha : AE F e A) : AS F (.Return (some e) pos) (sRet A) := by
  obtain ⟨t, p, s⟩ := ha
  refine ⟨_, fun X h => ps_ret (p X h), fun ad H0 H σ ρ μ A D w sl h l => ?_⟩
  exact s ad H0 H σ ρ μ A.er _ _ w sl l.er h fun v c μ1 ad1 H01 H1 g1 w1 r1 h1 => l.rt v c μ1 ad1 H01 H1 g1 w1 r1 h1
def sIf (t : AT) (s u : ASt) : ASt := fun D ρ μ => t D.er ρ μ fun b μ1 => match b with
  | true => s D ρ μ1
  | false => u D ρ μ1
theorem as_if {c : Expr} (hc : ATs F c TA) (h1 : ASs F body S) (h2 : ASs F orelse T) : AS F (.If c body orelse pos) (sIf TA S T) := by
  obtain ⟨tc, pc, sc⟩ := hc
  obtain ⟨t, p, s⟩ := h1
  obtain ⟨t2, p2, s2⟩ := h2
  refine ⟨_, fun X h => ps_if (pc X h) (p X h) (p2 X h), fun ad H0 H σ ρ μ A D w sl h l => ?_⟩
  refine sc ad H0 H σ ρ μ A.er _ _ w sl l.er h fun k μ1 ad1 H01 H1 g1 w1 q1 => ?_
  cases k with
  | true =>
    rw [if_pos rfl]
    exact s ad1 H01 H1 σ ρ μ1 A D w1 (g1.sl sl) q1 (l.step g1)
  | false =>
    rw [if_neg Bool.false_ne_true]
    exact s2 ad1 H01 H1 σ ρ μ1 A D w1 (g1.sl sl) q1 (l.step g1)
/-! ### for -/
def forL (g : AG) (body : ASt) (st : Sto → Prop) (D : AD) : List Cl → En → Sto → Prop
  | [] => fun ρ μ => st μ ∧ D.nx ρ μ
  | x :: xs => fun ρ μ => st μ ∧ g x ρ μ fun ρ' μ' => body { D with nx := fun ρ μ => forL g body st D xs ρ μ, ct := fun ρ μ => forL g body st D xs ρ μ, bk := D.nx } ρ' μ'
def sFor (i : AI) (g : AG) (body : ASt) : ASt := fun D ρ μ => i D.er ρ μ fun xs st μ1 => forL g body st D xs ρ μ1
theorem as_for {I : AI} {G : AG} {it : Expr} (hi : AIs F tg it I) (hg : AGt F tg G) (hb : ASs F body S) (hs : ∀ (X : Cx) x, foldedSetIterable it X.env x = pure x) : AS F (.For tg it body [] pos) (sFor I G S) := by
  obtain ⟨wi, pi, si⟩ := hi
  obtain ⟨g, pg, sg⟩ := hg
  obtain ⟨t, p, s⟩ := hb
  refine ⟨_, fun X h => ps_for h.po h.calm (pi X h) (pg X h) (p X h) (hs X), fun ad H0 H σ ρ μ A D w sl h l => ?_⟩
  refine si ad H0 H σ ρ μ A.er _ _ w sl l.er h fun J xs st μ1 ad1 H01 H1 g1 w1 io h1 => ?_
  refine ⟨fun i m σ' H' => m = xs.length - i ∧ i ≤ xs.length ∧ ∃ ad' H0' ρ' μ', Gr ad1 H01 H1 ad' H0' H' ∧ Wr F.K ad' H0' H' μ' ∧ SlR F.K ad' H0' σ' ρ' ∧ forL G S st A (xs.drop i) ρ' μ',
    ⟨xs.length, by simp, Nat.zero_le _, ad1, H01, ρ, μ1, Gr.refl _ _ _, w1, g1.sl sl, by simpa using h1⟩, ?_⟩
  rintro i m σ' H' ⟨rfl, hi, ad', H0', ρ', μ', g', w', sl', hf⟩
  by_cases hlt : i < xs.length
  · have ed : xs.drop i = xs[i] :: xs.drop (i + 1) := List.drop_eq_getElem_cons hlt
    rw [ed] at hf
    obtain ⟨hst, hf⟩ := hf
    refine .inr ⟨io.go i ad' H0' H' μ' g'.preE w' hst hlt, fun σ2 H2 => ∃ ad2 H02 ρ2 μ2, Gr ad1 H01 H1 ad2 H02 H2 ∧ Wr F.K ad2 H02 H2 μ2 ∧ SlR F.K ad2 H02 σ2 ρ2 ∧ forL G S st A (xs.drop (i + 1)) ρ2 μ2, ?_, ?_⟩
    · rintro σ2 H2 ⟨ad2, H02, ρ2, μ2, g2, w2, sl2, hf2⟩
      exact ⟨xs.length - (i + 1), by omega, rfl, by omega, ad2, H02, ρ2, μ2, g2, w2, sl2, hf2⟩
    · intro x H2 y
      obtain ⟨rfl, c, hc, rc⟩ := io.yld i ad' H0' H' μ' x H2 g'.preE w' hst y hlt
      rw [List.getElem?_eq_getElem hlt] at hc
      cases hc
      refine sg ad' H0' H2 σ' ρ' μ' x _ _ _ w' sl' rc hf fun σ3 ρ3 μ3 ad3 H03 H3 g3 w3 sl3 q3 => ?_
      refine s ad3 H03 H3 σ3 ρ3 μ3 _ _ w3 sl3 q3 ⟨fun σ4 ρ4 μ4 ad4 H04 H4 g4 w4 sl4 q4 => ⟨ad4, H04, ρ4, μ4, (g'.trans g3).trans g4, w4, sl4, q4⟩, fun v c μ4 ad4 H04 H4 g4 w4 r4 q4 => l.rt v c μ4 ad4 H04 H4 (((g1.trans g').trans g3).trans g4) w4 r4 q4,
        fun σ4 ρ4 μ4 ad4 H04 H4 g4 w4 sl4 q4 => l.nx σ4 ρ4 μ4 ad4 H04 H4 (((g1.trans g').trans g3).trans g4) w4 sl4 q4, fun σ4 ρ4 μ4 ad4 H04 H4 g4 w4 sl4 q4 => ⟨ad4, H04, ρ4, μ4, (g'.trans g3).trans g4, w4, sl4, q4⟩, l.er.step ((g1.trans g').trans g3)⟩
  · have e : i = xs.length := by omega
    subst e
    rw [List.drop_length] at hf
    exact .inl ⟨io.stop ad' H0' H' μ' g'.preE w' hf.1, l.nx σ' ρ' μ' ad' H0' H' (g1.trans g') w' sl' hf.2⟩
/-! ### while -/
def whN (t : AT) (body : ASt) (D : AD) : Nat → En → Sto → Prop
  | 0 => fun _ _ => False
  | n + 1 => fun ρ μ => t D.er ρ μ fun b μ1 => match b with
    | true => body { D with nx := fun ρ μ => whN t body D n ρ μ, ct := fun ρ μ => whN t body D n ρ μ, bk := D.nx } ρ μ1
    | false => D.nx ρ μ1
def sWhile (t : AT) (body : ASt) : ASt := fun D ρ μ => ∃ n, whN t body D n ρ μ
theorem as_while {c : Expr} (hc : ATs F c TA) (hb : ASs F body S) : AS F (.While c body [] pos) (sWhile TA S) := by
  obtain ⟨tc, pc, sc⟩ := hc
  obtain ⟨t, p, s⟩ := hb
  refine ⟨_, fun X h => ps_while h.po (pc X h) (p X h), fun ad H0 H σ ρ μ A D w sl h l => ?_⟩
  obtain ⟨n, hn⟩ := h
  refine ⟨fun m σ' H' => ∃ ad' H0' ρ' μ', Gr ad H0 H ad' H0' H' ∧ Wr F.K ad' H0' H' μ' ∧ SlR F.K ad' H0' σ' ρ' ∧ whN TA S A m ρ' μ', ⟨n, ad, H0, ρ, μ, Gr.refl _ _ _, w, sl, hn⟩, ?_⟩
  rintro m σ' H' ⟨ad', H0', ρ', μ', g', w', sl', hf⟩
  cases m with
  | zero => exact hf.elim
  | succ m =>
    refine sc ad' H0' H' σ' ρ' μ' A.er _ _ w' sl' (l.er.step g') hf fun k μ1 ad1 H01 H1 g1 w1 q1 => ?_
    cases k with
    | true =>
      rw [if_pos rfl]
      refine ⟨fun σ2 H2 => ∃ ad2 H02 ρ2 μ2, Gr ad H0 H ad2 H02 H2 ∧ Wr F.K ad2 H02 H2 μ2 ∧ SlR F.K ad2 H02 σ2 ρ2 ∧ whN TA S A m ρ2 μ2, fun σ2 H2 q => ⟨m, Nat.lt_succ_self m, q⟩, ?_⟩
      refine s ad1 H01 H1 σ' ρ' μ1 _ _ w1 (g1.sl sl') q1 ⟨fun σ4 ρ4 μ4 ad4 H04 H4 g4 w4 sl4 q4 => ⟨ad4, H04, ρ4, μ4, (g'.trans g1).trans g4, w4, sl4, q4⟩, fun v c μ4 ad4 H04 H4 g4 w4 r4 q4 => l.rt v c μ4 ad4 H04 H4 ((g'.trans g1).trans g4) w4 r4 q4,
        fun σ4 ρ4 μ4 ad4 H04 H4 g4 w4 sl4 q4 => l.nx σ4 ρ4 μ4 ad4 H04 H4 ((g'.trans g1).trans g4) w4 sl4 q4, fun σ4 ρ4 μ4 ad4 H04 H4 g4 w4 sl4 q4 => ⟨ad4, H04, ρ4, μ4, (g'.trans g1).trans g4, w4, sl4, q4⟩, l.er.step (g'.trans g1)⟩
    | false =>
      rw [if_neg Bool.false_ne_true]
      exact l.nx σ' ρ' μ1 ad1 H01 H1 (g'.trans g1) w1 (g1.sl sl') q1
/-! ### list.append -/
def sApp (a b : AX) : ASt := fun D ρ μ => a D.er ρ μ fun x μ1 => match x with
  | .m j => (match μ1[j]? with
    | some (.lst _) => b D.er ρ μ1 fun c μ2 => (match μ2[j]? with
      | some (.lst cs) => cs.length < 1000 ∧ D.nx ρ (μ2.set j (.lst (cs ++ [c])))
      | _ => False)
    | _ => False)
  | _ => False
theorem paired_snoc {α β : Type} {R : α → β → Prop} {xs : List α} {ys : List β} {x : α} {y : β} (h : Paired R xs ys) (r : R x y) : Paired R (xs ++ [x]) (ys ++ [y]) := Paired.app h (.cons r .nil)
theorem lst_at {K : Frg} {ad : List Addr} {H0 H : Hp} {μ : Sto} (w : Wr K ad H0 H μ) {j : Nat} {x : V} {cs : List Cl} (r : ClR K ad H0 x (.m j)) (h : μ[j]? = some (.lst cs)) : ∃ p vs, ad[j]? = some p ∧ x = .ref p ∧ H p = some (.lst vs) ∧ ClRs K ad H0 vs cs := by
  obtain ⟨p, hp, rfl⟩ := r
  obtain ⟨ho, q1, q2⟩ := w.at_ j p _ hp h
  cases ho with
  | lst vs => exact ⟨p, vs, hp, rfl, q1, q2⟩
  | _ => exact q2.elim
theorem as_app {apos cpos : Pos} (ha : AE F a A) (hb : AE F b B) (hsw : ∀ X : Cx, swapsWith (.Call (.Attribute a "append" apos) [b] [] cpos) none pos.line X.env = pure false)
    (hpe : ∀ X to t, Fok F X → PE X a to → PA X [b] t → PE X (.Call (.Attribute a "append" apos) [b] [] cpos) (tBM X.K "list" rAppend to t)) (hs : ∀ X : Cx, starEach [b] X.env = (false, eval b X.env) :: starEach [] X.env) :
    AS F (.Expr (.Call (.Attribute a "append" apos) [b] [] cpos) pos) (sApp A B) := by
  obtain ⟨t, p, s⟩ := ha
  obtain ⟨t2, p2, s2⟩ := hb
  refine ⟨tDrop (tBM F.K "list" rAppend t (tCons t2 tNil)), fun X h => ?_, fun ad H0 H σ ρ μ A D w sl h l => ?_⟩
  · have := ps_expr (pos := pos) (hpe X _ _ h (p X h) (pa_cons (p2 X h) pa_nil (hs X))) (hsw X)
    rw [h.K] at this; exact this
  · refine s ad H0 H σ ρ μ A.er _ _ w sl l.er h fun v x μ1 ad1 H01 H1 g1 w1 r1 h1 => ?_
    split at h1
    · rename_i j
      split at h1
      · rename_i cs1 hj
        obtain ⟨q, vs, hq, rfl, e1, e2⟩ := lst_at w1 r1 hj
        refine ⟨.inl ⟨rfl, vs, SqL.of e1⟩, ?_⟩
        refine s2 ad1 H01 H1 σ ρ μ1 A.er _ _ w1 (g1.sl sl) (l.er.step g1) h1 fun v2 c μ2 ad2 H02 H2 g2 w2 r2 h2 => ?_
        split at h2
        · rename_i cs hj2
          obtain ⟨q', vs', hq', eq', e3, e4⟩ := lst_at w2 (g2.cl r1) hj2
          cases eq'
          refine ⟨q, vs', v2, rfl, rfl, e3, Nat.lt_of_lt_of_le (by rw [Paired.len e4]; exact h2.1) (by decide), ?_⟩
          exact l.nx σ ρ _ ad2 H02 _ ((g1.trans g2).trans (Gr.set w2 hq')) (w2.set hq' (show MoR F.K ad2 H02 (.lst (vs' ++ [v2])) (.lst (cs ++ [c])) from paired_snoc e4 r2)) ((g1.trans g2).sl sl) h2.2
        · exact h2.elim
      · exact h1.elim
    · exact h1.elim
/-! ### objects -/
def getF (f : Str) (fs : List (Str × Cl)) : Option Cl := fs.lookup f
def putC (f : Str) (c : Cl) : List (Str × Cl) → List (Str × Cl)
  | [] => [(f, c)]
  | (g, d) :: r => if g = f then (g, c) :: r else (g, d) :: putC f c r
theorem lookup_paired {R : V → Cl → Prop} {f : Str} {c : Cl} : ∀ {fs : List (Str × V)} {gs : List (Str × Cl)}, Paired (fun p q => p.1 = q.1 ∧ R p.2 q.2) fs gs → gs.lookup f = some c → ∃ v, fs.lookup f = some v ∧ R v c
  | _, _, .nil, e => by simp at e
  | (g, v) :: r, (g', d) :: r', .cons h t, e => by
    obtain ⟨h1, h2⟩ := h
    simp only at h1 h2
    subst h1
    rw [List.lookup_cons] at e ⊢
    cases hg : f == g with
    | true =>
      rw [hg] at e
      cases e
      exact ⟨v, rfl, h2⟩
    | false =>
      rw [hg] at e
      exact lookup_paired t e
theorem lookup_none {R : V → Cl → Prop} {f : Str} : ∀ {fs : List (Str × V)} {gs : List (Str × Cl)}, Paired (fun p q => p.1 = q.1 ∧ R p.2 q.2) fs gs → gs.lookup f = none → fs.lookup f = none
  | _, _, .nil, _ => rfl
  | (g, v) :: r, (g', d) :: r', .cons h t, e => by
    obtain ⟨h1, h2⟩ := h
    simp only at h1 h2
    subst h1
    rw [List.lookup_cons] at e ⊢
    cases hg : f == g with
    | true => rw [hg] at e; cases e
    | false =>
      rw [hg] at e
      exact lookup_none t e
theorem put_paired {R : V → Cl → Prop} {f : Str} {v : V} {c : Cl} (hr : R v c) : ∀ {fs : List (Str × V)} {gs : List (Str × Cl)}, Paired (fun p q => p.1 = q.1 ∧ R p.2 q.2) fs gs → Paired (fun p q => p.1 = q.1 ∧ R p.2 q.2) (putF f v fs) (putC f c gs)
  | _, _, .nil => .cons ⟨rfl, hr⟩ .nil
  | (g, u) :: r, (g', d) :: r', .cons h t => by
    obtain ⟨h1, h2⟩ := h
    simp only at h1 h2
    subst h1
    show Paired _ (if g = f then (g, v) :: r else (g, u) :: putF f v r) (if g = f then (g, c) :: r' else (g, d) :: putC f c r')
    by_cases e : g = f
    · rw [if_pos e, if_pos e]
      exact .cons ⟨rfl, hr⟩ t
    · rw [if_neg e, if_neg e]
      exact .cons ⟨rfl, h2⟩ (put_paired hr t)
theorem ins_at {K : Frg} {ad : List Addr} {H0 H : Hp} {μ : Sto} (w : Wr K ad H0 H μ) {j : Nat} {x : V} {C : Addr} {fs : List (Str × Cl)} (r : ClR K ad H0 x (.m j)) (h : μ[j]? = some (.ins C fs)) :
    ∃ p dx gs, ad[j]? = some p ∧ x = .ref p ∧ H p = some (.ins C dx gs) ∧ Paired (fun (p : Str × V) (q : Str × Cl) => p.1 = q.1 ∧ ClR K ad H0 p.2 q.2) gs fs := by
  obtain ⟨p, hp, rfl⟩ := r
  obtain ⟨ho, q1, q2⟩ := w.at_ j p _ hp h
  cases ho with
  | ins C' dx gs =>
    obtain ⟨e, q2⟩ := q2
    subst e
    exact ⟨p, dx, gs, hp, rfl, q1, q2⟩
  | _ => exact q2.elim
/-- o.f -/
def aFld (C : Addr) (f : Str) (a : AX) : AX := fun er ρ μ Q => a er ρ μ fun x μ1 => match x with
  | .m j => (match μ1[j]? with
    | some (.ins C' fs) => C' = C ∧ (match getF f fs with
      | some c => Q c μ1
      | none => False)
    | _ => False)
  | _ => False
theorem ae_fld {C : Addr} {f : Str} (ha : AE F a A) (cl : Cls F.K C) (na : NoAttr F.K C f) (hb : ∀ X : Cx, attributeBase a f X.env (eval a X.env) = eval a X.env) : AE F (.Attribute a f pos) (aFld C f A) := by
  obtain ⟨t, p, s⟩ := ha
  refine ⟨tFld F.K t f, fun X h => ?_, fun ad H0 H σ ρ μ er Q R w sl el h k => ?_⟩
  · have := pe_fld (pos := pos) (p X h) (hb X)
    rw [h.K] at this; exact this
  · refine s ad H0 H σ ρ μ er _ _ w sl el h fun v x μ1 ad1 H01 H1 g1 w1 r1 h1 => ?_
    split at h1
    · split at h1
      · rename_i C' fs hj
        obtain ⟨rfl, h1⟩ := h1
        split at h1
        · rename_i c hc
          obtain ⟨q, dx, gs, hq, rfl, e1, e2⟩ := ins_at w1 r1 hj
          obtain ⟨u, hu, ru⟩ := lookup_paired e2 hc
          exact ⟨q, C', dx, gs, u, rfl, e1, cl, na, hu, k u c μ1 ad1 H01 H1 g1 w1 ru h1⟩
        · exact h1.elim
      · exact h1.elim
    · exact h1.elim
/-- o.f = e -/
def sFldS (C : Addr) (f : Str) (a b : AX) : ASt := fun D ρ μ => b D.er ρ μ fun c μ1 => a D.er ρ μ1 fun x μ2 => match x with
  | .m j => (match μ2[j]? with
    | some (.ins C' fs) => C' = C ∧ fs.length < 1000 ∧ D.nx ρ (μ2.set j (.ins C (putC f c fs)))
    | _ => False)
  | _ => False
theorem as_fld {C : Addr} {f : Str} {pos' : Pos} (ha : AE F a A) (hb : AE F b B) (cl : Cls F.K C) (na : NoAttr F.K C f) (hs : ∀ X : Cx, swapsWith b (some (.Attribute a f pos')) pos.line X.env = pure false) : AS F (.Assign [.Attribute a f pos'] b pos) (sFldS C f A B) := by
  obtain ⟨t, p, s⟩ := ha
  obtain ⟨t2, p2, s2⟩ := hb
  refine ⟨sFld F.K t t2 f, fun X h => ?_, fun ad H0 H σ ρ μ A D w sl h l => ?_⟩
  · have := ps_fld (pos := pos) (pos' := pos') (p X h) (p2 X h) (hs X)
    rw [h.K] at this; exact this
  · refine s2 ad H0 H σ ρ μ A.er _ _ w sl l.er h fun v c μ1 ad1 H01 H1 g1 w1 r1 h1 => ?_
    refine s ad1 H01 H1 σ ρ μ1 A.er _ _ w1 (g1.sl sl) (l.er.step g1) h1 fun v2 x μ2 ad2 H02 H2 g2 w2 r2 h2 => ?_
    split at h2
    · split at h2
      · rename_i C' fs hj
        obtain ⟨rfl, hl, h2⟩ := h2
        obtain ⟨q, dx, gs, hq, rfl, e1, e2⟩ := ins_at w2 r2 hj
        refine ⟨q, C', dx, gs, rfl, e1, cl, na, by rw [Paired.len e2]; exact hl, ?_⟩
        exact l.nx σ ρ _ ad2 H02 _ ((g1.trans g2).trans (Gr.set w2 hq)) (w2.set hq (show MoR F.K ad2 H02 (.ins C' dx (putF f v gs)) (.ins C' (putC f c fs)) from ⟨rfl, put_paired (g2.cl r1) e2⟩)) ((g1.trans g2).sl sl) h2
      · exact h2.elim
    · exact h2.elim
end
end Jh

set_option Elab.async false
set_option linter.all false
set_option maxRecDepth 100000
set_option maxHeartbeats 2000000
namespace Jh
open PySem PySem.Spec PyProof.Rows L2

/-! ### comprehensions -/
def wipeE (ρ : En) : List Nat → En
  | [] => ρ
  | v :: vs => (wipeE ρ vs).set v none
theorem wipe_sl {K : Frg} {ad : List Addr} {H0 : Hp} {σ : L2.St} {ρ : En} (h : SlR K ad H0 σ ρ) : ∀ vs : List Nat, SlR K ad H0 (wipe σ vs) (wipeE ρ vs)
  | [] => h
  | v :: vs => Paired.set (F := SlR1 K ad H0) (a := none) (b := none) trivial v (wipe_sl h vs)
theorem wipe_get (σ : L2.St) (i : Nat) : ∀ vs : List Nat, (wipe σ vs)[i]? = if i ∈ vs then (if i < σ.length then some none else none) else σ[i]?
  | [] => by simp [wipe]
  | v :: vs => by
    unfold wipe
    rw [List.getElem?_set, wipe_length, wipe_get σ i vs]
    by_cases h : v = i
    · subst h; simp
    · have h' : ¬ i = v := fun e => h e.symm
      simp [h, h']
theorem wipe_set {σ : L2.St} {vs : List Nat} {j : Nat} (hj : j ∈ vs) (x : Option V) : wipe ((wipe σ vs).set j x) vs = wipe σ vs := by
  apply List.ext_getElem?
  intro i
  rw [wipe_get, wipe_get, List.length_set, wipe_length]
  by_cases h : i ∈ vs
  · rw [if_pos h, if_pos h]
  · rw [if_neg h, if_neg h, List.getElem?_set_ne (fun (e : j = i) => h (e ▸ hj)), wipe_get, if_neg h]
def lcL (j : Nat) (ρ : En) (t : AT) (a : AX) (st : Sto → Prop) (Q : List Cl → Sto → Prop) : List Cl → List Cl → Sto → Prop
  | [] => fun acc μ => st μ ∧ Q acc μ
  | x :: xs => fun acc μ => st μ ∧ acc.length < 1000 ∧ t (fun _ _ => False) (ρ.set j (some x)) μ fun b μ1 => match b with
    | true => a (fun _ _ => False) (ρ.set j (some x)) μ1 fun c μ2 => lcL j ρ t a st Q xs (acc ++ [c]) μ2
    | false => lcL j ρ t a st Q xs acc μ1
def aLc (j : Nat) (vs : List Nat) (i : AI) (t : AT) (a : AX) : AA := fun er ρ μ Q => i er ρ μ fun xs st μ1 => lcL j (wipeE ρ vs) t a st Q xs [] μ1
def aYes : AT := fun _ _ μ Q => Q true μ
section
variable {F : Fx} {e a b tg : Expr} {A B : AX} {pos : Pos}
theorem snd_lc {F' : Fx} (hK : F'.K = F.K) {wi : TI} {tt : TT} {te : TE} {I : AI} {TA : AT} {j : Nat} {vs : List Nat} (hj : j ∈ vs) (si : SndI F wi I) (st : SndT F' tt TA) (se : Snd F' te A) : SndL F (tLc wi (gName j) tt te vs) (aLc j vs I TA A) := by
  obtain ⟨P', w', K', mg', base', N', sc', k', E', fn'⟩ := F'
  simp only at hK
  subst hK
  intro ad H0 H σ ρ μ er Q R w sl el h k
  refine si ad H0 H σ ρ μ er _ _ w sl el h fun J xs sto μ1 ad1 H01 H1 g1 w1 io h1 => ?_
  intro D hD
  have nD := w1.none_of hD
  -- the state within: the list so far stands at D, beside the world
  have wD : Wr F.K ad1 H01 (upd H1 D (.lst [])) μ1 := w1.more (Ex.upd hD)
  have gD : Gr ad1 H01 H1 ad1 H01 (upd H1 D (.lst [])) := Gr.more (Ex.upd hD)
  have keepD : ∀ {ad2 : List Addr} {H02 H2 : Hp} {ad3 : List Addr} {H03 H3 : Hp} {o : HO}, Gr ad2 H02 H2 ad3 H03 H3 → H2 D = some o → D ∉ ad2 → H02 D = none → H3 D = some o ∧ D ∉ ad3 ∧ H03 D = none := by
    intro ad2 H02 H2 ad3 H03 H3 o g e n1 n2
    refine ⟨g.keep D o n1 e, fun m => ?_, ?_⟩
    · obtain ⟨ys, ey, hy⟩ := g.pre
      rw [ey] at m
      rcases List.mem_append.mp m with q | q
      · exact n1 q
      · rw [hy D q] at e; cases e
    · cases q : H03 D with
      | none => rfl
      | some u =>
        rcases g.fr0 D u q with z | z
        · rw [n2] at z; cases z
        · rw [z] at e; cases e
  refine ⟨fun i m H' => m = xs.length - i ∧ i ≤ xs.length ∧ ∃ ad2 H02 μ2 ws acc, Gr ad1 H01 H1 ad2 H02 H' ∧ Wr F.K ad2 H02 H' μ2 ∧ H' D = some (.lst ws) ∧ D ∉ ad2 ∧ H02 D = none ∧ ClRs F.K ad2 H02 ws acc ∧ lcL j (wipeE ρ vs) TA A sto Q (xs.drop i) acc μ2,
    ⟨xs.length, by simp, Nat.zero_le _, ad1, H01, μ1, [], [], gD, wD, upd_same, nD.1, nD.2, .nil, by simpa using h1⟩, ?_⟩
  rintro i m H' ⟨rfl, hi, ad2, H02, μ2, ws, acc, g2, w2, d1, d2, d3, rc, hf⟩
  by_cases hlt : i < xs.length
  · have ed : xs.drop i = xs[i] :: xs.drop (i + 1) := List.drop_eq_getElem_cons hlt
    rw [ed] at hf
    obtain ⟨hst, hl, hf⟩ := hf
    refine .inr ⟨io.go i ad2 H02 H' μ2 g2.preE w2 hst hlt, fun H3 => ∃ ad3 H03 μ3 ws3 acc3, Gr ad1 H01 H1 ad3 H03 H3 ∧ Wr F.K ad3 H03 H3 μ3 ∧ H3 D = some (.lst ws3) ∧ D ∉ ad3 ∧ H03 D = none ∧ ClRs F.K ad3 H03 ws3 acc3 ∧ lcL j (wipeE ρ vs) TA A sto Q (xs.drop (i + 1)) acc3 μ3, ?_, ?_⟩
    · rintro H3 ⟨ad3, H03, μ3, ws3, acc3, q⟩
      exact ⟨xs.length - (i + 1), by omega, rfl, by omega, ad3, H03, μ3, ws3, acc3, q⟩
    · intro x H3 y
      obtain ⟨rfl, c, hc, rx⟩ := io.yld i ad2 H02 H' μ2 x H3 g2.preE w2 hst y hlt
      rw [List.getElem?_eq_getElem hlt] at hc
      cases hc
      refine ⟨wipe_set hj _, ?_⟩
      have sl2 : SlR F.K ad2 H02 ((wipe σ vs).set j (some x)) ((wipeE ρ vs).set j (some xs[i])) := Paired.set (F := SlR1 F.K ad2 H02) (a := some x) (b := some xs[i]) rx j (wipe_sl ((g1.trans g2).sl sl) vs)
      refine st ad2 H02 H3 _ _ μ2 _ _ _ w2 sl2 erl_false hf fun bb μ3 ad3 H03 H4 g3 w3 h3 => ?_
      obtain ⟨f1, f2, f3⟩ := keepD g3 d1 d2 d3
      cases bb with
      | true =>
        rw [if_pos rfl]
        refine se ad3 H03 H4 _ _ μ3 _ _ _ w3 (g3.sl sl2) erl_false h3 fun v c μ4 ad4 H04 H5 g4 w4 r4 h4 => ?_
        obtain ⟨z1, z2, z3⟩ := keepD g4 f1 f2 f3
        refine ⟨ws, z1, Nat.lt_of_lt_of_le (by rw [Paired.len rc]; exact hl) (by decide), ?_⟩
        have e5 : Ex H01 H04 := ((g2.trans g3).trans g4).ex0
        -- D's list is written
        have wU : Wr F.K ad4 H04 (upd H5 D (.lst (ws ++ [v]))) μ4 := by
          refine ⟨fun a o q => ?_, w4.len, w4.nd, w4.out, fun jj a o q1 q2 => ?_⟩
          · have : a ≠ D := fun e => by rw [e, z3] at q; cases q
            rw [upd_ne this]; exact w4.ex a o q
          · have : a ≠ D := fun e => z2 (e ▸ List.mem_of_getElem? q1)
            obtain ⟨ho, p1, p2⟩ := w4.at_ jj a o q1 q2
            exact ⟨ho, by rw [upd_ne this]; exact p1, p2⟩
        have gU : Gr ad1 H01 H1 ad4 H04 (upd H5 D (.lst (ws ++ [v]))) := by
          have g := (g2.trans g3).trans g4
          refine ⟨g.ex0, g.fr0, g.pre, fun a o n q => ?_, fun a q => ?_⟩
          · have : a ≠ D := fun e => by rw [e, hD] at q; cases q
            rw [upd_ne this]; exact g.keep a o n q
          · by_cases e : a = D
            · rw [e]; exact hD
            · rw [upd_ne e] at q; exact g.stay a q
        exact ⟨ad4, H04, μ4, ws ++ [v], acc ++ [c], gU, wU, upd_same, z2, z3, paired_snoc ((g3.trans g4).cls rc) r4, h4⟩
      | false =>
        rw [if_neg Bool.false_ne_true]
        exact ⟨ad3, H03, μ3, ws, acc, g2.trans g3, w3, f1, f2, f3, g3.cls rc, h3⟩
  · have e : i = xs.length := by omega
    subst e
    rw [List.drop_length] at hf
    exact .inl ⟨io.stop ad2 H02 H' μ2 g2.preE w2 hf.1, k D ws acc μ2 ad2 H02 H' (g1.trans g2) w2 (g1.stay D hD) d1 d3 d2 rc hf.2⟩
/-- within a comprehension's block -/
def Fx.blk (F : Fx) (scope : Scope) : Fx := { F with sc := relS scope F.sc, E := fun _ _ _ => False, fn := fun x => scope.names.lookup x == some .cell }
theorem Fok.blk {X : Cx} (h : Fok F X) (scope : Scope) (s : Shared) (H : Hp) (C : Addr) (cl : List (Str × Addr)) (fp : List Addr) : Fok (F.blk scope) (X.blk s H scope (compEnvC scope cl C X.env) fp) where
  prog := h.prog
  w := h.w
  K := h.K
  mg := h.mg
  base := h.base
  N := h.N
  sc := by
    show relS scope X.env.scope = relS scope F.sc
    rw [h.sc]
  room := h.room
  calm := h.calm
  tk := takes0
  po := PassesOwn.never
  fn := rfl
def ATst (F : Fx) (ifs : List Expr) (a : AT) : Prop := ∃ tt, (∀ X, Fok F X → PTs X ifs tt) ∧ SndT F tt a
theorem ats_nil : ATst F [] aYes := ⟨tYes, fun _ _ => pts_nil, fun ad H0 H σ ρ μ er Q R w sl el h k => k true μ ad H0 H (Gr.refl _ _ _) w h⟩
theorem ats_one {TA : AT} {c : Expr} (h : ATs F c TA) : ATst F [c] TA := by
  obtain ⟨t, p, s⟩ := h
  exact ⟨t, fun X h => pts_one (p X h), s⟩
theorem pg_own {scope : Scope} {j : Nat} {x : Str} (hN : F.N.Nodup) (hi : F.N[j]? = some x) (hx : Loc (relS scope F.sc) x) (hf : (scope.names.lookup x == some .cell) = true ∨ (relS scope F.sc).names.lookup x = some .local) : ∀ X, Fok (F.blk scope) X → PG X (.Name x pos) (gName j) := fun X h =>
  pg_name (by rw [h.N]; exact hN) (by rw [h.N]; exact hi) (by rw [h.sc]; exact hx) (by rw [h.fn, h.sc]; exact hf)
theorem al_lc {it elt : Expr} {ifs : List Expr} {scope : Scope} {own : List (Str × Nat)} {x : Str} {px : Pos} {j : Nat} {I : AI} {TA : AT} (hi : AIs F (.Name x px) it I) (hN : F.N.Nodup) (ok : blkC F.N F.sc scope own = true)
    (hj : F.N[j]? = some x) (hx : Loc (relS scope F.sc) x) (hf : (scope.names.lookup x == some .cell) = true ∨ (relS scope F.sc).names.lookup x = some .local) (hm : j ∈ own.map (·.2))
    (ht : ATst (F.blk scope) ifs TA) (he : AE (F.blk scope) elt A) (hs : ∀ (X : Cx) y, foldedSetIterable it X.env y = pure y) :
    AL F (.ListComp elt [⟨.Name x px, it, ifs, 0⟩] scope pos) (aLc j (own.map (·.2)) I TA A) := by
  obtain ⟨wi, pi, si⟩ := hi
  obtain ⟨tt, pt, st⟩ := ht
  obtain ⟨te, pe, se⟩ := he
  exact ⟨_, fun X h => pe_lc h.calm (by rw [h.N]; exact hN) (pi X h) (by rw [h.N, h.sc]; exact blkOk_by ok) (fun s H C cl fp => pg_own hN hj hx hf _ (h.blk scope s H C cl fp)) (fun s H C cl fp => pt _ (h.blk scope s H C cl fp)) (fun s H C cl fp => pe _ (h.blk scope s H C cl fp)) (hs X),
    snd_lc (F := F) (F' := F.blk scope) rfl hm si st se⟩
/-- y = [..] -/
def sLcO (i : Nat) (r : AA) : ASt := fun D ρ μ => aOwn r D.er ρ μ fun c μ1 => D.nx (ρ.set i (some c)) μ1
def sLcF (i : Nat) (r : AA) : ASt := fun D ρ μ => aFrz r D.er ρ μ fun c μ1 => D.nx (ρ.set i (some c)) μ1
theorem setLc_ps {it elt : Expr} {ifs : List Expr} {scope : Scope} {own : List (Str × Nat)} {x y : Str} {px py spos : Pos} {i j : Nat} {I : AI} {TA : AT} (hi : AIs F (.Name x px) it I) (hN : F.N.Nodup) (ok : blkC F.N F.sc scope own = true)
    (hj : F.N[j]? = some x) (hx : Loc (relS scope F.sc) x) (hf : (scope.names.lookup x == some .cell) = true ∨ (relS scope F.sc).names.lookup x = some .local) (hm : j ∈ own.map (·.2))
    (ht : ATst (F.blk scope) ifs TA) (he : AE (F.blk scope) elt A) (hs : ∀ (X : Cx) y, foldedSetIterable it X.env y = pure y)
    (hy : F.N[i]? = some y) (hyl : F.sc.names.lookup y = some .local) (hk : F.sc.kind = .function) (hl : (py.line == pos.line) = true) (hq : (scope.names.any fun (n, k) => n == y && (k == .local || k == .cell)) = false) :
    ∃ te, (∀ X, Fok F X → PS X (.Assign [.Name y py] (.ListComp elt [⟨.Name x px, it, ifs, 0⟩] scope pos) spos) (tAsg te (gName i))) ∧ SndL F te (aLc j (own.map (·.2)) I TA A) := by
  obtain ⟨wi, pi, si⟩ := hi
  obtain ⟨tt, pt, st⟩ := ht
  obtain ⟨te, pe, se⟩ := he
  exact ⟨_, fun X h => ps_setLc h.calm (by rw [h.N]; exact hN) (by rw [h.N]; exact hy) (by rw [h.sc]; exact hyl) (sw_true (by rw [h.sc]; exact hk) (by rw [h.sc]; exact hyl) hl hq) (pi X h) (by rw [h.N, h.sc]; exact blkOk_by ok) (fun s H C cl fp => pg_own hN hj hx hf _ (h.blk scope s H C cl fp)) (fun s H C cl fp => pt _ (h.blk scope s H C cl fp)) (fun s H C cl fp => pe _ (h.blk scope s H C cl fp)) (hs X),
    snd_lc (F := F) (F' := F.blk scope) rfl hm si st se⟩
theorem as_lcO {st : Stmt} {i : Nat} {R : AA} (h : ∃ te, (∀ X, Fok F X → PS X st (tAsg te (gName i))) ∧ SndL F te R) : AS F st (sLcO i R) := by
  obtain ⟨te, p, s⟩ := h
  refine ⟨_, p, fun ad H0 H σ ρ μ A D w sl h l => ?_⟩
  refine s ad H0 H σ ρ μ A.er _ _ w sl l.er h fun q vs cs μ1 ad1 H01 H1 g1 w1 hq hq1 hq0 hqa r1 h1 => ?_
  have w2 := w1.ownAt (o := .lst cs) hq1 hq0 hqa (show MoR F.K ad1 H01 (.lst vs) (.lst cs) from r1)
  have g2 : Gr ad H0 H (ad1 ++ [q]) H01 H1 := by
    obtain ⟨xs, ex, hx⟩ := g1.pre
    refine ⟨g1.ex0, g1.fr0, ⟨xs ++ [q], by rw [ex, List.append_assoc], fun a ha => ?_⟩, g1.keep, g1.stay⟩
    rcases List.mem_append.mp ha with z | z
    · exact hx a z
    · simp at z; subst z; exact hq
  exact l.nx _ _ _ _ H01 H1 g2 w2 (Paired.set (F := SlR1 F.K (ad1 ++ [q]) H01) (a := some (.ref q)) (b := some (.m μ1.length)) ⟨q, by rw [← w1.len]; simp, rfl⟩ i (g2.sl sl)) h1
theorem as_lcF {st : Stmt} {i : Nat} {R : AA} (h : ∃ te, (∀ X, Fok F X → PS X st (tAsg te (gName i))) ∧ SndL F te R) : AS F st (sLcF i R) := by
  obtain ⟨te, p, s⟩ := h
  refine ⟨_, p, fun ad H0 H σ ρ μ A D w sl h l => ?_⟩
  refine s ad H0 H σ ρ μ A.er _ _ w sl l.er h fun q vs cs μ1 ad1 H01 H1 g1 w1 hq hq1 hq0 hqa r1 h1 => ?_
  split at h1
  · rename_i ds hd
    rw [allD_eq hd] at r1
    have g2 : Gr ad H0 H ad1 (upd H01 q (.lst vs)) H1 := by
      refine ⟨g1.ex0.trans (Ex.upd hq0), fun a o e => ?_, g1.pre, g1.keep, g1.stay⟩
      by_cases z : a = q
      · subst z; exact .inr hq
      · rw [upd_ne z] at e; exact g1.fr0 a o e
    exact l.nx _ _ _ _ _ H1 g2 (w1.frzAt hq1 hq0 hqa) (Paired.set (F := SlR1 F.K ad1 (upd H01 q (.lst vs))) (a := some (.ref q)) (b := some (.d (.list ds))) (Dq.lst upd_same ((clrs_dq r1).mono (Ex.upd hq0))) i (g2.sl sl)) h1
  · exact h1.elim
end
end Jh

set_option Elab.async false
set_option linter.all false
set_option maxRecDepth 100000
set_option maxHeartbeats 2000000
namespace Jh
open PySem PySem.Spec PyProof.Rows L2

/-! ### what a def promises, by cells -/
abbrev RS := List Cl → Sto → (Cl → Sto → Prop) → Er → Prop
def SpA (K : Frg) (R : RS) : Sp := fun vs H Q E => ∃ (ad : List Addr) (H0 : Hp) (cs : List Cl) (μ : Sto) (A : Cl → Sto → Prop) (er : Er), Wr K ad H0 H μ ∧ ClRs K ad H0 vs cs ∧ R cs μ A er ∧
  (∀ v c μ' ad' H0' H', Gr ad H0 H ad' H0' H' → Wr K ad' H0' H' μ' → ClR K ad' H0' v c → A c μ' → Q v H') ∧ (∀ C μ' ad' H0' H', Gr ad H0 H ad' H0' H' → Wr K ad' H0' H' μ' → er C μ' → E (.ref C) none H')

/-- what stays of the store: cells that point into its first n -/
def cOk (n : Nat) : Cl → Prop
  | .m j => j < n
  | _ => True
def oOk (n : Nat) : MO → Prop
  | .lst cs => ∀ c ∈ cs, cOk n c
  | .dct kcs => ∀ p ∈ kcs, cOk n p.2
  | .ins _ fs => ∀ p ∈ fs, cOk n p.2
section
variable {K : Frg} {ad ad' : List Addr} {H0 H H0' H' : Hp} {μ μ' : Sto}
theorem cOk_of {v : V} {c : Cl} (h : ClR K ad H0 v c) : cOk ad.length c := by
  cases c with
  | m j => obtain ⟨a, h1, _⟩ := h; exact (List.getElem?_eq_some_iff.mp h1).1
  | d x => trivial
  | v x => trivial
  | s x => trivial
theorem clR_back {xs : List Addr} {v : V} {c : Cl} (h : ClR K (ad ++ xs) H0 v c) (hc : cOk ad.length c) : ClR K ad H0 v c := by
  cases c with
  | m j =>
    obtain ⟨a, h1, h2⟩ := h
    rw [List.getElem?_append_left hc] at h1
    exact ⟨a, h1, h2⟩
  | d x => exact h
  | v x => exact h
  | s x => exact h
theorem paired_mem {α β : Type} {F : α → β → Prop} : ∀ {l₁ : List α} {l₂ : List β}, Paired F l₁ l₂ → ∀ b ∈ l₂, ∃ a, F a b
  | _, _, .nil, b, h => by cases h
  | _, _, .cons r t, b, h => by
    rcases List.mem_cons.mp h with rfl | h
    · exact ⟨_, r⟩
    · exact paired_mem t b h
theorem paired_impM {α β : Type} {F G : α → β → Prop} : ∀ {l₁ : List α} {l₂ : List β}, Paired F l₁ l₂ → (∀ a b, b ∈ l₂ → F a b → G a b) → Paired G l₁ l₂
  | _, _, .nil, _ => .nil
  | _, _, .cons r t, f => .cons (f _ _ List.mem_cons_self r) (paired_impM t fun a b h => f a b (List.mem_cons_of_mem _ h))
theorem oOk_of {ho : HO} {o : MO} (h : MoR K ad H0 ho o) : oOk ad.length o := by
  cases o with
  | lst cs => cases ho <;> first | exact (fun c hc => let ⟨v, r⟩ := paired_mem h c hc; cOk_of r) | exact h.elim
  | dct kcs => cases ho <;> first | exact (fun c hc => let ⟨v, r⟩ := paired_mem h c hc; cOk_of r.2) | exact h.elim
  | ins C fs => cases ho <;> first | exact (fun c hc => let ⟨v, r⟩ := paired_mem h.2 c hc; cOk_of r.2) | exact h.elim
theorem moR_back {xs : List Addr} {ho : HO} {o : MO} (h : MoR K (ad ++ xs) H0 ho o) (hc : oOk ad.length o) : MoR K ad H0 ho o := by
  cases o with
  | lst cs => cases ho <;> first | exact paired_impM h (fun a b hb r => clR_back r (hc b hb)) | exact h.elim
  | dct kcs => cases ho <;> first | exact paired_impM h (fun a b hb r => ⟨r.1, clR_back r.2 (hc b hb)⟩) | exact h.elim
  | ins C fs => cases ho <;> first | exact ⟨h.1, paired_impM h.2 (fun a b hb r => ⟨r.1, clR_back r.2 (hc b hb)⟩)⟩ | exact h.elim
/-- every object of the world points within -/
theorem Wr.oOk (w : Wr K ad H0 H μ) {j : Nat} {o : MO} (h : μ[j]? = some o) : oOk ad.length o := by
  have hj : j < ad.length := by rw [w.len]; exact (List.getElem?_eq_some_iff.mp h).1
  obtain ⟨ho, _, r⟩ := w.at_ j ad[j] o (List.getElem?_eq_getElem hj) h
  exact oOk_of r
/-- what the call made besides is forgotten -/
theorem Wr.drop {xs : List Addr} {g : Sto} (w : Wr K (ad ++ xs) H0 H (μ ++ g)) (hl : μ.length = ad.length) (ho : ∀ (j : Nat) (o : MO), μ[j]? = some o → Jh.oOk ad.length o) : Wr K ad H0 H μ := by
  refine ⟨w.ex, hl.symm, (List.nodup_append.mp w.nd).1, fun a ha => w.out a (List.mem_append_left _ ha), fun j a o h1 h2 => ?_⟩
  have h1' : (ad ++ xs)[j]? = some a := by rw [List.getElem?_append_left (List.getElem?_eq_some_iff.mp h1).1]; exact h1
  have h2' : (μ ++ g)[j]? = some o := by rw [List.getElem?_append_left (List.getElem?_eq_some_iff.mp h2).1]; exact h2
  obtain ⟨q, r1, r2⟩ := w.at_ j a o h1' h2'
  exact ⟨q, r1, moR_back r2 (ho j o h2)⟩
theorem Gr.drop {xs : List Addr} (g : Gr ad H0 H (ad ++ xs) H0' H') : Gr ad H0 H ad H0' H' := ⟨g.ex0, g.fr0, ⟨[], by simp, by simp⟩, g.keep, g.stay⟩
end
def plainC : Cl → Bool
  | .m _ => false
  | _ => true
def plainO : MO → Bool
  | .lst cs => cs.all plainC
  | .dct kcs => kcs.all fun p => plainC p.2
  | .ins _ fs => fs.all fun p => plainC p.2
theorem plainC_ok {n : Nat} {c : Cl} (h : plainC c = true) : cOk n c := by
  cases c with
  | m j => cases h
  | d x => trivial
  | v x => trivial
  | s x => trivial
theorem plainO_ok {n : Nat} {o : MO} (h : plainO o = true) : oOk n o := by
  cases o with
  | lst cs => exact fun c hc => plainC_ok (List.all_eq_true.mp h c hc)
  | dct kcs => exact fun c hc => plainC_ok (List.all_eq_true.mp h c hc)
  | ins C fs => exact fun c hc => plainC_ok (List.all_eq_true.mp h c hc)
/-- the store behind: as it was in its first part, but for plain objects -/
def Cut (μ μ1 : Sto) : Prop := μ1.length = μ.length ∧ ∀ (j : Nat) (o : MO), μ1[j]? = some o → μ[j]? = some o ∨ plainO o = true
theorem Cut.refl (μ : Sto) : Cut μ μ := ⟨rfl, fun _ _ h => .inl h⟩
theorem Cut.set {μ : Sto} {j : Nat} {o : MO} (h : plainO o = true) : Cut μ (μ.set j o) := by
  refine ⟨by simp, fun i u e => ?_⟩
  by_cases hi : i = j
  · subst hi
    rw [List.getElem?_set] at e
    simp only [if_true] at e
    split at e
    · cases e; exact .inr h
    · cases e
  · rw [List.getElem?_set_ne (Ne.symm hi)] at e
    exact .inl e
def finR (μ : Sto) (A : Cl → Sto → Prop) : Cl → Sto → Prop := fun c μ' => A c μ' ∨ ∃ μ1 g, μ' = μ1 ++ g ∧ Cut μ μ1 ∧ plainC c = true ∧ A c μ1
def finE (μ : Sto) (er : Er) : Er := fun C μ' => er C μ' ∨ ∃ μ1 g, μ' = μ1 ++ g ∧ Cut μ μ1 ∧ er C μ1
def startE (N : List Str) (cs : List Cl) : En := cs.map some ++ List.replicate (N.length - cs.length) none
theorem start_sl {K : Frg} {ad : List Addr} {H0 : Hp} {N : List Str} {vs : List V} {cs : List Cl} (h : ClRs K ad H0 vs cs) : SlR K ad H0 (L2.start N vs) (startE N cs) := by
  unfold L2.start startE
  rw [Paired.len h]
  refine Paired.app ?_ ?_
  · revert h
    generalize vs = vs
    intro h
    induction h with
    | nil => exact .nil
    | cons r _ ih => exact .cons r ih
  · generalize N.length - cs.length = n
    induction n with
    | zero => exact .nil
    | succ n ih => rw [List.replicate_succ, List.replicate_succ]; exact .cons trivial ih
/-- the ends of a def's body -/
def bodyD (μ : Sto) (A : Cl → Sto → Prop) (er : Er) : AD := ⟨fun _ μ' => finR μ A (.d .none) μ', finR μ A, fun _ _ => False, fun _ _ => False, finE μ er⟩
section
variable {P : Program} {w : World} {K : Frg} {mg : Str → Option Value} {base : Heap}
theorem body_lnk {F : Fx} {ad : List Addr} {H0 H : Hp} {μ : Sto} {A : Cl → Sto → Prop} {er : Er} {Q : VK} (w : Wr F.K ad H0 H μ)
    (k : ∀ v c μ' ad' H0' H', Gr ad H0 H ad' H0' H' → Wr F.K ad' H0' H' μ' → ClR F.K ad' H0' v c → A c μ' → Q v H') (ke : ErL F ad H0 H er) : Lnk F ad H0 H (bodyD μ A er) { nx := fun _ H' => Q .non H', rt := Q } := by
  have okμ : ∀ {μ1 : Sto}, Cut μ μ1 → ∀ (j : Nat) (o : MO), μ1[j]? = some o → oOk ad.length o := fun {μ1} c j o e => by
    rcases c.2 j o e with q | q
    · exact w.oOk q
    · exact plainO_ok q
  have fin : ∀ v c μ' ad' H0' H', Gr ad H0 H ad' H0' H' → Wr F.K ad' H0' H' μ' → ClR F.K ad' H0' v c → finR μ A c μ' → Q v H' := by
    intro v c μ' ad' H0' H' g w' r h
    rcases h with h | ⟨μ1, gb, rfl, cu, pc, h⟩
    · exact k v c μ' ad' H0' H' g w' r h
    · obtain ⟨xs, ex, hx⟩ := g.pre
      subst ex
      exact k v c μ1 ad H0' H' g.drop (w'.drop (cu.1.trans w.len.symm) (okμ cu)) (clR_back r (plainC_ok pc)) h
  refine ⟨fun σ' ρ' μ' ad' H0' H' g w' sl h => fin .non (.d .none) μ' ad' H0' H' g w' Dq.non h, fin, fun _ _ _ _ _ _ _ _ _ h => h.elim, fun _ _ _ _ _ _ _ _ _ h => h.elim, fun C μ' ad' H0' H' g w' h => ?_⟩
  rcases h with h | ⟨μ1, gb, rfl, cu, h⟩
  · exact ke C μ' ad' H0' H' g w' h
  · obtain ⟨xs, ex, hx⟩ := g.pre
    subst ex
    exact ke C μ1 ad H0' H' g.drop (w'.drop (cu.1.trans w.len.symm) (okμ cu)) h
/-- a def, by its body's reading -/
theorem fn_ok {x qual : Str} {st : Stmt} {f : Addr} {fd : FuncData} {N ps : List Str} {k : Nat} {R : RS} {a : ASt} (Fn : Fun K x qual st f fd) (S : FnScope N ps (defScope st)) (hlen : ∀ cs μ A er, R cs μ A er → cs.length = ps.length)
    (hb : ∀ E, ASs ⟨P, w, K, mg, base, N, defScope st, k, E, fun _ => true⟩ (defBody st) a) (hr : ∀ cs μ A er, R cs μ A er → a (bodyD μ A er) (startE N cs) μ) : FnOk P w K mg base (L2.CX P w) (k + 1) f fd ps (SpA K R) := by
  refine Fn.okX S (fun vs H Q E h => ?_) (fun cdv A outer s H vs Q E hroom h => ?_)
  · obtain ⟨ad, H0, cs, μ, A, er, w, r, h, _⟩ := h
    rw [Paired.len r]
    exact hlen _ _ _ _ h
  · obtain ⟨ts, p, sd⟩ := hb E
    refine ⟨ts, p _ ⟨rfl, rfl, rfl, rfl, rfl, rfl, rfl, hroom, rfl, takes_of rfl rfl rfl rfl, passes_of rfl, rfl⟩, ?_⟩
    obtain ⟨ad, H0, cs, μ, A', er, w', r, h, k1, k2⟩ := h
    exact sd ad H0 H _ _ μ _ _ w' (start_sl r) (hr cs μ A' er h) (body_lnk (F := ⟨P, w, K, mg, base, N, defScope st, k, E, fun _ => true⟩) w' k1 k2)
/-- a def that lets nothing out (a method) -/
theorem fn_ok0 {x qual : Str} {st : Stmt} {f : Addr} {fd : FuncData} {N ps : List Str} {k : Nat} {R : RS} {a : ASt} (Fn : Fun K x qual st f fd) (S : FnScope N ps (defScope st)) (hlen : ∀ cs μ A er, R cs μ A er → cs.length = ps.length)
    (hb : ASs ⟨P, w, K, mg, base, N, defScope st, k, fun _ _ _ => False, fun _ => true⟩ (defBody st) a) (hr : ∀ cs μ A er, R cs μ A er → a (bodyD μ A (fun _ _ => False)) (startE N cs) μ) : FnOk P w K mg base CX0 (k + 1) f fd ps (SpA K R) := by
  refine Fn.ok S (fun vs H Q E h => ?_) (fun cdv A outer s H vs Q E hroom h => ?_)
  · obtain ⟨ad, H0, cs, μ, A, er, w, r, h, _⟩ := h
    rw [Paired.len r]
    exact hlen _ _ _ _ h
  · obtain ⟨ts, p, sd⟩ := hb
    refine ⟨ts, p _ ⟨rfl, rfl, rfl, rfl, rfl, rfl, rfl, hroom, rfl, takes0, PassesOwn.never, rfl⟩, ?_⟩
    obtain ⟨ad, H0, cs, μ, A', er, w', r, h, k1, k2⟩ := h
    exact sd ad H0 H _ _ μ _ _ w' (start_sl r) (hr cs μ A' er h) (body_lnk (F := ⟨P, w, K, mg, base, N, defScope st, k, fun _ _ _ => False, fun _ => true⟩) w' k1 erl_false)
end
/-- a def of the module, for its callers -/
structure Cal (P : Program) (w : World) (K : Frg) (mg : Str → Option Value) (base : Heap) (k : Nat) (x : Str) (R : RS) : Prop where
  ex : ∃ f fd ps, FnOk P w K mg base (L2.CX P w) k f fd ps (SpA K R) ∧ mg x = some (.ref f) ∧ PySem.W.keepIn K (.ref f) = true ∧ Binds K fd ps []
/-- a method, a class that is made -/
structure Mtd (P : Program) (w : World) (K : Frg) (mg : Str → Option Value) (base : Heap) (k : Nat) (C : Addr) (m : Str) (R : RS) : Prop where
  ex : ∃ f fd ps, FnOk P w K mg base CX0 k f fd ps (SpA K R) ∧ Cls K C ∧ Meth K C m f ∧ Binds K fd ps []
structure Mkr (P : Program) (w : World) (K : Frg) (mg : Str → Option Value) (base : Heap) (k : Nat) (C : Addr) (x : Str) (R : RS) : Prop where
  ex : ∃ f fd ps, FnOk P w K mg base CX0 k f fd ps (SpA K R) ∧ Mk K C f ∧ mg x = some (.ref C) ∧ Binds K fd ps []
section
variable {F : Fx} {e a b o : Expr} {A B : AX} {pos p apos : Pos} {es : List Expr} {AR : AA} {x m : Str} {R : RS} {C : Addr} {j : Nat}
def aCall (R : RS) (r : AA) : AX := fun er ρ μ Q => r er ρ μ fun cs μ1 => R cs μ1 Q er
theorem ae_call (c : Cal F.P F.w F.K F.mg F.base j x R) (hj : j ≤ F.k) (hg : GlF F x) (ha : AAs F (e :: es) AR) (hdb : (x == ("__debug__" : Str)) = false)
    (he : ∀ X : Cx, starEach (e :: es) X.env = (false, eval e X.env) :: starEach es X.env) (hpl : ∀ X : Cx, (backTo pos (starEach es X.env)).any (·.1) = false) : AE F (.Call (.Name x p) (e :: es) [] pos) (aCall R AR) := by
  obtain ⟨f, fd, ps, G, hm, hk, hb⟩ := c
  obtain ⟨t, pa, s⟩ := ha
  refine ⟨tCallS (SpA F.K R) (fun _ => F.E) t, fun X h => ?_, fun ad H0 H σ ρ μ er Q R' w sl el h k => ?_⟩
  · have hE : ∀ σ, PassesAt (L2.CX X.prog X.w) X σ F.E := fun σ => passAt (W := fun cls d _ H => F.E cls d H) h.tk σ
    have G' : FnOk X.prog X.w X.K X.mg X.base (L2.CX X.prog X.w) j f fd ps (SpA F.K R) := by rw [h.prog, h.w, h.K, h.mg, h.base]; exact G
    exact pe_callS G' (h.room.mono hj) (gl_of h hg) (by rw [h.mg]; exact hm) (by rw [h.K]; exact hk) (by rw [h.K]; exact hb) hE (pa X h) hdb (he X) (hpl X)
  · refine s ad H0 H σ ρ μ er _ _ w sl el h fun vs cs μ1 ad1 H01 H1 g1 w1 r1 h1 => ?_
    exact ⟨ad1, H01, cs, μ1, Q, er, w1, r1, h1, fun v c μ2 ad2 H02 H2 g2 w2 r2 h2 => k v c μ2 ad2 H02 H2 (g1.trans g2) w2 r2 h2, fun C μ2 ad2 H02 H2 g2 w2 h2 => el C μ2 ad2 H02 H2 (g1.trans g2) w2 h2⟩
/-- o.m(..) -/
def aMeth (C : Addr) (m : Str) (R : RS) (a : AX) (r : AA) : AX := fun er ρ μ Q => a er ρ μ fun x μ1 => match x with
  | .m j => (match μ1[j]? with
    | some (.ins C' fs) => C' = C ∧ getF m fs = none ∧ r er ρ μ1 fun cs μ2 => R (.m j :: cs) μ2 Q (fun _ _ => False)
    | _ => False)
  | _ => False
theorem snd_meth {to : TE} {t : TA} (so : Snd F to A) (s : SndA F t AR) : Snd F (tMeth C m (SpA F.K R) [] E0 to t) (aMeth C m R A AR) := by
  intro ad H0 H σ ρ μ er Q R' w sl el h k
  refine so ad H0 H σ ρ μ er _ _ w sl el h fun v x μ1 ad1 H01 H1 g1 w1 r1 h1 => ?_
  split at h1
  · split at h1
    · rename_i jx _ C' fs hj
      obtain ⟨rfl, hn, h1⟩ := h1
      obtain ⟨q, dx, gs, hq, rfl, e1, e2⟩ := ins_at w1 r1 hj
      refine ⟨q, dx, gs, rfl, e1, lookup_none e2 hn, ?_⟩
      refine s ad1 H01 H1 σ ρ μ1 er _ _ w1 (g1.sl sl) (el.step g1) h1 fun vs cs μ2 ad2 H02 H2 g2 w2 r2 h2 => ?_
      rw [List.append_nil]
      exact ⟨ad2, H02, _, μ2, Q, _, w2, .cons (g2.cl r1) r2, h2, fun v c μ3 ad3 H03 H3 g3 w3 r3 h3 => k v c μ3 ad3 H03 H3 ((g1.trans g2).trans g3) w3 r3 h3, fun _ _ _ _ _ _ _ z => z.elim⟩
    · exact h1.elim
  · exact h1.elim
theorem pass00 {X : Cx} : Passes CX0 X E0 := pass0
theorem ae_meth (c : Mtd F.P F.w F.K F.mg F.base j C m R) (hj : j ≤ F.k) (hA : AE F o A) (ha : AAs F (e :: es) AR)
    (hp : ∀ (X : Cx) f fd ps to t, Fok F X → PE X o to → PA X (e :: es) t → FnOk X.prog X.w X.K X.mg X.base CX0 j f fd ps (SpA F.K R) → Room j X.A → Cls X.K C → Meth X.K C m f → Binds X.K fd ps [] → PE X (.Call (.Attribute o m apos) (e :: es) [] pos) (tMeth C m (SpA F.K R) [] E0 to t)) :
    AE F (.Call (.Attribute o m apos) (e :: es) [] pos) (aMeth C m R A AR) := by
  obtain ⟨f, fd, ps, G, cl, hm, hb⟩ := c
  obtain ⟨to, po, so⟩ := hA
  obtain ⟨t, pa, s⟩ := ha
  refine ⟨_, fun X h => hp X f fd ps to t h (po X h) (pa X h) (by rw [h.prog, h.w, h.K, h.mg, h.base]; exact G) (h.room.mono hj) (by rw [h.K]; exact cl) (by rw [h.K]; exact hm) (by rw [h.K]; exact hb), snd_meth so s⟩
theorem ae_meth0 (c : Mtd F.P F.w F.K F.mg F.base j C m R) (hj : j ≤ F.k) (hA : AE F o A)
    (hp : ∀ (X : Cx) f fd ps to, Fok F X → PE X o to → FnOk X.prog X.w X.K X.mg X.base CX0 j f fd ps (SpA F.K R) → Room j X.A → Cls X.K C → Meth X.K C m f → Binds X.K fd ps [] → PE X (.Call (.Attribute o m apos) [] [] pos) (tMeth C m (SpA F.K R) [] E0 to tNil)) :
    AE F (.Call (.Attribute o m apos) [] [] pos) (aMeth C m R A aNil) := by
  obtain ⟨f, fd, ps, G, cl, hm, hb⟩ := c
  obtain ⟨to, po, so⟩ := hA
  refine ⟨_, fun X h => hp X f fd ps to h (po X h) (by rw [h.prog, h.w, h.K, h.mg, h.base]; exact G) (h.room.mono hj) (by rw [h.K]; exact cl) (by rw [h.K]; exact hm) (by rw [h.K]; exact hb),
    snd_meth so (fun ad H0 H _ _ μ _ _ _ w _ _ h k => k [] [] μ ad H0 H (Gr.refl _ _ _) w .nil h)⟩
/-- C(..) -/
def aMake (C : Addr) (R : RS) (r : AA) : AX := fun er ρ μ Q => r er ρ μ fun cs μ1 => R (.m μ1.length :: cs) (μ1 ++ [.ins C []]) (fun c μ2 => c = .d .none ∧ Q (.m μ1.length) μ2) (fun _ _ => False)
theorem ae_make (c : Mkr F.P F.w F.K F.mg F.base j C x R) (hj : j + 1 ≤ F.k) (hg : GlF F x) (ha : AAs F (e :: es) AR) (hdb : (x == ("__debug__" : Str)) = false)
    (he : ∀ X : Cx, starEach (e :: es) X.env = (false, eval e X.env) :: starEach es X.env) (hpl : ∀ X : Cx, (backTo pos (starEach es X.env)).any (·.1) = false) : AE F (.Call (.Name x p) (e :: es) [] pos) (aMake C R AR) := by
  obtain ⟨f, fd, ps, G, hM, hm, hb⟩ := c
  obtain ⟨t, pa, s⟩ := ha
  refine ⟨tMake C (SpA F.K R) [] E0 t, fun X h => ?_, fun ad H0 H σ ρ μ er Q R' w sl el h k => ?_⟩
  · have G' : FnOk X.prog X.w X.K X.mg X.base CX0 j f fd ps (SpA F.K R) := by rw [h.prog, h.w, h.K, h.mg, h.base]; exact G
    exact pe_make (by rw [h.K]; exact hM) G' (h.room.mono hj) (gl_of h hg) (by rw [h.mg]; exact hm) (by rw [h.K]; exact hb) .nil pass0 (pa X h) hdb (he X) (hpl X)
  · refine s ad H0 H σ ρ μ er _ _ w sl el h fun vs cs μ1 ad1 H01 H1 g1 w1 r1 h1 => ?_
    intro q dx nq nd hne
    have n1 := w1.none_of nd
    have wA : Wr F.K ad1 H01 (upd H1 dx (.own q)) μ1 := w1.more (Ex.upd nd)
    have nq2 : upd H1 dx (.own q) q = none := by rw [upd_ne hne.symm]; exact nq
    have wB : Wr F.K ad1 H01 (upd (upd H1 dx (.own q)) q (.ins C dx [])) μ1 := wA.more (Ex.upd nq2)
    have n2 := wA.none_of nq2
    have wC : Wr F.K (ad1 ++ [q]) H01 (upd (upd H1 dx (.own q)) q (.ins C dx [])) (μ1 ++ [.ins C []]) := wB.ownAt upd_same n2.2 n2.1 (show MoR F.K ad1 H01 (.ins C dx []) (.ins C []) from ⟨rfl, .nil⟩)
    have gC : Gr ad1 H01 H1 (ad1 ++ [q]) H01 (upd (upd H1 dx (.own q)) q (.ins C dx [])) := by
      have g := (Gr.more (ad := ad1) (H0 := H01) (Ex.upd (o := HO.own q) nd)).trans (Gr.more (ad := ad1) (H0 := H01) (Ex.upd (o := HO.ins C dx []) nq2))
      refine ⟨g.ex0, g.fr0, ⟨[q], rfl, fun a ha => ?_⟩, g.keep, g.stay⟩
      simp at ha; subst ha; exact nq
    rw [List.append_nil]
    refine ⟨ad1 ++ [q], H01, .m μ1.length :: cs, _, _, _, wC, .cons (show ClR F.K (ad1 ++ [q]) H01 (.ref q) (.m μ1.length) from ⟨q, by rw [← w1.len]; simp, rfl⟩) (gC.cls r1), h1, fun v c μ3 ad3 H03 H3 g3 w3 r3 h3 => ?_, fun _ _ _ _ _ _ _ z => z.elim⟩
    obtain ⟨rfl, h3⟩ := h3
    cases r3
    refine ⟨rfl, k _ (.m μ1.length) μ3 ad3 H03 H3 ((g1.trans gC).trans g3) w3 ⟨q, g3.at_ ?_, rfl⟩ h3⟩
    rw [← w1.len]; simp
/-! ### raise -/
structure ExF (F : Fx) (x : Str) (C : Addr) : Prop where
  ex : PySem.W.excIn F.K C [.type "ValueError", .type "Exception", .type "BaseException", .type "object"] "ValueError.__new__" = true
  g : F.mg x = some (.ref C)
  k : PySem.W.keepIn F.K (.ref C) = true
  b : PySem.W.subIn F.K (.ref C) (.type "BaseException") = some true
  t : PySem.W.typeIn F.K (.ref C) = some (.type "type")
def sRaise (C : Addr) : ASt := fun D _ μ => D.er C μ
theorem as_raise {msg : Str} {n : Nat} {p2 pos2 : Pos} (c : ExF F x C) (hg : GlF F x) (hdb : (x == ("__debug__" : Str)) = false) : AS F (.Raise (some (.Call (.Name x p) [.Constant (.str msg) n p2] [] pos2)) none pos) (sRaise C) := by
  refine ⟨_, fun X h => ps_raise h.calm h.tk (pmk_own PySem.F.excBase_ValueError (by rw [h.K]; exact c.ex) (by rw [h.mg]; exact c.g) (by rw [h.K]; exact c.k) (raises_own (by rw [h.K]; exact c.b) (by rw [h.K]; exact c.t)) (gl_of h hg) hdb), fun ad H0 H σ ρ μ A D w sl h l => ?_⟩
  exact l.er C μ ad H0 H (Gr.refl _ _ _) w h
/-! ### a dict -/
def aDNew : AX := fun _ _ μ Q => Q (.m μ.length) (μ ++ [.dct []])
theorem ae_dnew : AE F (.Dict [] [] pos) aDNew := by
  refine ⟨_, fun X h => pe_dnewK, fun ad H0 H σ ρ μ er Q R w sl el h k => fun q hq => ?_⟩
  have n := w.none_of hq
  have w2 := (w.more (Ex.upd (o := HO.dK []) hq)).ownAt (o := .dct []) (upd_same (o := HO.dK [])) n.2 n.1 (show MoR F.K ad H0 (.dK []) (.dct []) from .nil)
  refine k _ (.m μ.length) _ (ad ++ [q]) H0 _ ?_ w2 ⟨q, by rw [← w.len]; simp, rfl⟩ h
  have g := Gr.more (ad := ad) (H0 := H0) (Ex.upd (o := HO.dK []) hq)
  refine ⟨g.ex0, g.fr0, ⟨[q], rfl, fun a ha => ?_⟩, g.keep, g.stay⟩
  simp at ha; subst ha; exact hq
def valC (kcs : List (Key × Cl)) (k : Key) : Option Cl := (kcs.find? fun kv => decide (kv.1 = k)).map (·.2)
def putD (kcs : List (Key × Cl)) (k : Key) (c : Cl) : List (Key × Cl) :=
  if (kcs.any fun kv => decide (kv.1 = k)) = true then kcs.map (fun kv => if kv.1 = k then (kv.1, c) else kv) else kcs ++ [(k, c)]
theorem dct_at {K : Frg} {ad : List Addr} {H0 H : Hp} {μ : Sto} (w : Wr K ad H0 H μ) {j : Nat} {x : V} {kcs : List (Key × Cl)} (r : ClR K ad H0 x (.m j)) (h : μ[j]? = some (.dct kcs)) :
    ∃ p kvs, ad[j]? = some p ∧ x = .ref p ∧ H p = some (.dK kvs) ∧ Paired (fun (p : Key × V) (q : Key × Cl) => p.1 = q.1 ∧ ClR K ad H0 p.2 q.2) kvs kcs := by
  obtain ⟨p, hp, rfl⟩ := r
  obtain ⟨ho, q1, q2⟩ := w.at_ j p _ hp h
  cases ho with
  | dK kvs => exact ⟨p, kvs, hp, rfl, q1, q2⟩
  | _ => exact q2.elim
theorem valC_paired {K : Frg} {ad : List Addr} {H0 : Hp} (k : Key) : ∀ {kvs : List (Key × V)} {kcs : List (Key × Cl)}, Paired (fun (p : Key × V) (q : Key × Cl) => p.1 = q.1 ∧ ClR K ad H0 p.2 q.2) kvs kcs →
    (valV kvs k = none ∧ valC kcs k = none) ∨ ∃ v c, valV kvs k = some v ∧ valC kcs k = some c ∧ ClR K ad H0 v c
  | _, _, .nil => .inl ⟨rfl, rfl⟩
  | (k1, v1) :: r, (k2, c2) :: r', .cons h t => by
    obtain ⟨h1, h2⟩ := h
    simp only at h1 h2
    subst h1
    unfold valV valC
    rw [List.find?_cons, List.find?_cons]
    by_cases e : k1 = k
    · simp only [e, decide_true]
      exact .inr ⟨v1, c2, rfl, rfl, h2⟩
    · simp only [e, decide_false]
      exact valC_paired k t
theorem put_pairedD {K : Frg} {ad : List Addr} {H0 : Hp} (k : Key) {v : V} {c : Cl} (r : ClR K ad H0 v c) {kvs : List (Key × V)} {kcs : List (Key × Cl)} (h : Paired (fun (p : Key × V) (q : Key × Cl) => p.1 = q.1 ∧ ClR K ad H0 p.2 q.2) kvs kcs) :
    Paired (fun (p : Key × V) (q : Key × Cl) => p.1 = q.1 ∧ ClR K ad H0 p.2 q.2) (putK kvs k v) (putD kcs k c) := by
  have e : (kvs.any fun kv => decide (kv.1 = k)) = (kcs.any fun kv => decide (kv.1 = k)) := by
    induction h with
    | nil => rfl
    | cons h t ih => rw [List.any_cons, List.any_cons, ih, h.1]
  unfold putK putD
  rw [e]
  split
  · rename_i hz
    clear e hz
    induction h with
    | nil => exact .nil
    | @cons p q _ _ h t ih =>
      rw [List.map_cons, List.map_cons]
      refine .cons ?_ ih
      obtain ⟨h1, h2⟩ := h
      by_cases z : p.1 = k
      · rw [if_pos z, if_pos (h1 ▸ z)]; exact ⟨h1, r⟩
      · rw [if_neg z, if_neg (fun y => z (h1.trans y))]; exact ⟨h1, h2⟩
  · exact Paired.app h (.cons ⟨rfl, r⟩ .nil)
/-- d.get(k, x), k a text -/
def aDGet2 (a b c : AX) : AX := fun er ρ μ Q => a er ρ μ fun x μ1 => match x with
  | .m j => (match μ1[j]? with
    | some (.dct _) => b er ρ μ1 fun y μ2 => c er ρ μ2 fun z μ3 => (match y, μ3[j]? with
      | .d (.str s), some (.dct kcs) => Q ((valC kcs (.inr s)).getD z) μ3
      | _, _ => False)
    | _ => False)
  | _ => False
theorem ae_dget2 {c : Expr} {CC : AX} {cpos : Pos} (ha : AE F a A) (hb : AE F b B) (hc : AE F c CC) (hm : ∀ X : Cx, M2 X a "get" apos b c cpos) : AE F (.Call (.Attribute a "get" apos) [b, c] [] cpos) (aDGet2 A B CC) := by
  obtain ⟨t1, p1, s1⟩ := ha
  obtain ⟨t2, p2, s2⟩ := hb
  obtain ⟨t3, p3, s3⟩ := hc
  refine ⟨_, fun X h => pe_dget2 (hu_of h.room) (p1 X h) (p2 X h) (p3 X h) (hm X), fun ad H0 H σ ρ μ er Q R w sl el h k => ?_⟩
  refine s1 ad H0 H σ ρ μ er _ _ w sl el h fun v x μ1 ad1 H01 H1 g1 w1 r1 h1 => ?_
  split at h1
  · split at h1
    · rename_i jx _ kcs hj
      obtain ⟨q, kvs, hq, rfl, e1, e2⟩ := dct_at w1 r1 hj
      refine ⟨q, rfl, .inl ⟨kvs, .inl e1⟩, ?_⟩
      refine s2 ad1 H01 H1 σ ρ μ1 er _ _ w1 (g1.sl sl) (el.step g1) h1 fun v2 y μ2 ad2 H02 H2 g2 w2 r2 h2 => ?_
      refine s3 ad2 H02 H2 σ ρ μ2 er _ _ w2 ((g1.trans g2).sl sl) (el.step (g1.trans g2)) h2 fun v3 z μ3 ad3 H03 H3 g3 w3 r3 h3 => ?_
      split at h3
      · rename_i s kcs3 hj3
        obtain ⟨q', kvs', hq', eq', e3, e4⟩ := dct_at w3 ((g2.trans g3).cl r1) hj3
        cases eq'
        cases r2
        refine ⟨valV kvs' (.inr s), DGet.k (k := .inr s) e3, ?_⟩
        rcases valC_paired (.inr s) e4 with ⟨z1, z2⟩ | ⟨v', c', z1, z2, z3⟩
        · rw [z1]
          rw [z2] at h3
          exact k _ z μ3 ad3 H03 H3 ((g1.trans g2).trans g3) w3 r3 h3
        · rw [z1]
          rw [z2] at h3
          exact k _ c' μ3 ad3 H03 H3 ((g1.trans g2).trans g3) w3 z3 h3
      · exact h3.elim
    · exact h1.elim
  · exact h1.elim
/-- d[k] = v, k a text -/
def sDPutA (a b c : AX) : ASt := fun D ρ μ => c D.er ρ μ fun z μ1 => a D.er ρ μ1 fun x μ2 => b D.er ρ μ2 fun y μ3 => match x, y with
  | .m j, .d (.str s) => (match μ3[j]? with
    | some (.dct kcs) => kcs.length < 1000 ∧ D.nx ρ (μ3.set j (.dct (putD kcs (.inr s) z)))
    | _ => False)
  | _, _ => False
theorem as_dput {c : Expr} {CC : AX} {pos' : Pos} (ha : AE F a A) (hb : AE F b B) (hc : AE F c CC) (hs : ∀ X : Cx, swapsWith c (some (.Subscript a b pos')) pos.line X.env = pure false) : AS F (.Assign [.Subscript a b pos'] c pos) (sDPutA A B CC) := by
  obtain ⟨t1, p1, s1⟩ := ha
  obtain ⟨t2, p2, s2⟩ := hb
  obtain ⟨t3, p3, s3⟩ := hc
  refine ⟨_, fun X h => ps_dput (hu_of h.room) (p1 X h) (p2 X h) (p3 X h) (hs X), fun ad H0 H σ ρ μ A D w sl h l => ?_⟩
  refine s3 ad H0 H σ ρ μ A.er _ _ w sl l.er h fun v z μ1 ad1 H01 H1 g1 w1 r1 h1 => ?_
  refine s1 ad1 H01 H1 σ ρ μ1 A.er _ _ w1 (g1.sl sl) (l.er.step g1) h1 fun v2 x μ2 ad2 H02 H2 g2 w2 r2 h2 => ?_
  refine s2 ad2 H02 H2 σ ρ μ2 A.er _ _ w2 ((g1.trans g2).sl sl) (l.er.step (g1.trans g2)) h2 fun v3 y μ3 ad3 H03 H3 g3 w3 r3 h3 => ?_
  split at h3
  · rename_i jx s
    split at h3
    · rename_i kcs hj
      obtain ⟨q, kvs, hq, rfl, e1, e2⟩ := dct_at w3 (g3.cl r2) hj
      cases r3
      refine ⟨q, _, rfl, DPut.k (k := .inr s) e1 (Nat.lt_of_lt_of_le (by rw [Paired.len e2]; exact h3.1) (by decide)), ?_⟩
      exact l.nx σ ρ _ ad3 H03 _ (((g1.trans g2).trans g3).trans (Gr.set w3 hq)) (w3.set hq (show MoR F.K ad3 H03 (.dK (putK kvs (.inr s) v)) (.dct (putD kcs (.inr s) z)) from put_pairedD _ ((g2.trans g3).cl r1) e2)) (((g1.trans g2).trans g3).sl sl) h3.2
    · exact h3.elim
  · exact h3.elim
end
end Jh

set_option Elab.async false
set_option linter.all false
set_option maxRecDepth 100000
set_option maxHeartbeats 2000000
namespace PySem.W
open PySem PySem.Calls PyProof.Rows
section
variable {prog : Program} {w : World} {A : Around} {E : Value → Shared → Prop} {s : Shared}
/-- as collect_list, of a tuple -/
theorem jh_collect_tup {l : Addr} {vs : List Value} {Q : List Value → Shared → Prop} (hl : s.heap.IsTuple l vs.toArray)
    (h : Q vs { s with heap := (s.heap.push (seqObj "list" #[] 0)).update s.heap.objs.size (Obj.mapSeq (· ++ vs.toArray)) }) (hsz : vs.length ≤ sizeLine) :
    wpAny (model prog w) A (collect (.ref l)) Q E s := by
  obtain ⟨o, ho, hc, n, hd⟩ := id hl
  unfold collect
  refine wpAny_bind (wpAny_runValue (codeAny_builtin entry_proto_collect' ?_))
  show wpAny _ _ (do again (.builtin "list.__iadd__" ⟨[← newList [], .ref l], []⟩)) _ _ s
  refine wpAny_bind (wpAny_newList (wpAny_pure ⟨Code.quiet_builtin _ (by decide +kernel), codeAny_builtin entry_list_iadd' ?_⟩))
  show wpAny _ _ (Builtin.List.listExtendWith (.ref s.heap.objs.size) (.ref l) (.ref s.heap.objs.size)) _ _ { s with heap := s.heap.push (seqObj "list" #[] 0) }
  unfold Builtin.List.listExtendWith
  have ho' : (s.heap.push (seqObj "list" #[] 0)).get? l = some o := Heap.get?_push_of_some _ ho
  refine wpAny_bind (wpAny_typeOf (T := "tuple") ⟨o, ho', hc⟩ ?_)
  have ht : (Value.type "tuple" == Value.type "tuple") = true := by rfl
  rw [if_pos (by rw [ht]; simp)]
  refine wpAny_bind (listItems_at ho' hd ?_)
  refine wpAny_bind (listItems_at (xs := #[]) (n := 0) (Heap.get?_push_size _ rfl) rfl ?_)
  rw [if_neg (by simp)]
  refine wpAny_bind (listUpdate_at (xs := #[]) (n := 0) (Heap.get?_push_size _ rfl) rfl ?_ (Nat.zero_le _) (by show (#[] ++ vs.toArray).size ≤ sizeLine + 1; simp only [Array.size_append, List.size_toArray, List.length_nil]; omega))
  refine wpAny_pure ?_
  show wpAny (model prog w) A (do
      let o ← load s.heap.objs.size
      match o.data with
      | .seq xs _ => pure xs.toList
      | _ => unsupported "internal:collect") Q E { s with heap := (s.heap.push (seqObj "list" #[] 0)).update s.heap.objs.size (Obj.mapSeq (· ++ vs.toArray)) }
  refine wpAny_bind (wpAny_load (get?_update_seq (Heap.get?_push_size _ rfl) _) ?_)
  show wpAny _ _ (pure ((#[] : Array Value) ++ vs.toArray).toList) Q E _
  rw [show ((#[] : Array Value) ++ vs.toArray).toList = vs by simp]
  exact wpAny_pure h
theorem jh_sorted_of_sortT {l : Addr} {vs : List Value} {kw : List (Str × Value)} {Q : Value → Shared → Prop} (hl : s.heap.IsTuple l vs.toArray) (hL : vs.length ≤ sizeLine) (ha1 : argsOk "sorted" ⟨[.ref l], kw⟩) (ha2 : ∀ x, argsOk "list.sort" ⟨[.ref x], kw⟩)
    (body : ∀ E' : Value → Shared → Prop, wpAny (model prog w) A.in1.in1 (Builtin.«list.sort» ⟨[.ref (s.heap.objs.size + 1)], kw⟩) (fun f s' => f = .done (.ret .none) ∧ Q (.ref (s.heap.objs.size + 1)) s') E' { s with heap := copyHeap s.heap vs }) :
    wpAny (model prog w) A (call (.builtin "sorted") [.ref l] kw) Q E s := by
  refine call_function_entry_kw kind_sorted plain_sorted entry_sorted ha1 ?_
  unfold Builtin.«sorted»
  refine wpAny_bind (m := checkCount "sorted" 1 1 _) (wpAny_pure ?_)
  refine wpAny_bind (jh_collect_tup hl ?_ hL)
  refine wpAny_bind (wpAny_newList ?_ hL)
  have hsz : ((s.heap.push (seqObj "list" #[] 0)).update s.heap.objs.size (Obj.mapSeq (· ++ vs.toArray))).objs.size = s.heap.objs.size + 1 := by
    rw [Heap.size_update, size_push']
  show wpAny _ _ _ _ _ { s with heap := copyHeap s.heap vs }
  rw [hsz]
  refine wpAny_bind (wpAny_holding (wpAny_call_entry_kw slot_list_sort ⟨_, copyHeap_at s.heap vs, rfl⟩ entry_list_sort ?body (ha2 _)))
  case body =>
    show wpAny (model prog w) A.in1.in1 (Builtin.«list.sort» ⟨[.ref (s.heap.objs.size + 1)], kw⟩) _ _ _
    refine wpAny_mono (body _) (fun f s' hf => ?_) fun _ _ e => e
    obtain ⟨rfl, hq⟩ := hf
    exact ⟨_, rfl, wpAny_pure ⟨_, rfl, hq⟩⟩
theorem jh_sorted_dataT {β : Type} {enc : β → PyData} {R : Value → β → Prop} {vs : List Value} {bs : List β} {l : Addr} {Q : Value → Shared → Prop} (hl : s.heap.IsTuple l vs.toArray) (e : EachIs R vs bs) (er : EachIs (fun v b => ∃ as, Reads s.heap v (enc b) as) vs bs) (hal : AllAlike (bs.map enc)) (hk : Sortable (bs.map enc)) (hL : bs.length ≤ sizeLine)
    (hu : ∀ b, b ∈ bs → A.units + 2 + (enc b).depth < cLine) (h : ∀ out, out.length = bs.length → EachIs R out (bs.mergeSort (dataLe false enc)) → Q (.ref (s.heap.objs.size + 1)) { s with heap := sortedAll s.heap vs (List.toArray out) }) :
    wpAny (model prog w) A (call (.builtin "sorted") [.ref l]) Q E s := by
  have er' : EachIs (fun v b => ∃ as, Reads (sortingHeap (copyHeap s.heap vs) (s.heap.objs.size + 1) vs) v (enc b) as) vs bs := er.mono fun _ _ ⟨as, r⟩ => ⟨as, PyProof.Rows.Reads.keeps (fun _ _ => sorting_copy_old) r⟩
  have S := SortsAt.data (A := A.in1.in1) (s := { s with heap := sortingHeap (copyHeap s.heap vs) (s.heap.objs.size + 1) vs }) (prog := prog) (w := w) (each_map (R := fun v d => ∃ as, Reads (sortingHeap (copyHeap s.heap vs) (s.heap.objs.size + 1) vs) v d as) enc er') hal hk (fun d hd => by
    obtain ⟨b, hb, rfl⟩ := List.mem_map.mp hd
    exact hu b hb)
  have hlen : vs.length ≤ sizeLine := by rw [e.length]; exact hL
  refine jh_sorted_of_sortT hl hlen (args_sorted1 _) (fun _ => args_list_sort _) fun _ => list_sort_vals (s := { s with heap := copyHeap s.heap vs }) (copyHeap_at s.heap vs) S hlen ⟨rfl, ?_⟩
  exact h _ (by rw [sortVals_length false rfl]; exact e.length) (sortVals_data false e er' hal)
end
end PySem.W
namespace Jh
open PySem PySem.Spec PyProof.Rows L2
/-! ### sorted -/
def rSortJ (K : Frg) : List V → Hp → VK → Prop := fun xs H Q => ∃ (a : Addr) (bs : List (V × PyData)), xs = [.ref a] ∧ (SqL K H a (bs.map Prod.fst) ∨ SqT K H a (bs.map Prod.fst)) ∧ (∀ b ∈ bs, Dp K H b.1 b.2) ∧ PySem.W.AllAlike (bs.map Prod.snd) ∧ PySem.W.Sortable (bs.map Prod.snd) ∧
  bs.length ≤ 1000 ∧ (∀ b ∈ bs, b.2.depth ≤ 32) ∧ ∀ p, H p = none → Q (.ref p) (upd H p (.lst ((bs.mergeSort (PySem.W.dataLe false Prod.snd)).map Prod.fst)))
theorem each_rel : ∀ {bs : List (V × PyData)} {us : List Value}, Vals (bs.map Prod.fst) us → PySem.W.EachIs (fun u b => RelV b.1 u) us bs
  | [], us, h => by cases h; exact .nil
  | b :: bs, us, h => by
    rw [List.map_cons] at h
    cases h with
    | cons r t => exact .cons r (each_rel t)
theorem each_back : ∀ {bs : List (V × PyData)} {us : List Value}, PySem.W.EachIs (fun u b => RelV b.1 u) us bs → Vals (bs.map Prod.fst) us
  | _, _, .nil => .nil
  | _, _, .cons r t => .cons r (each_back t)
theorem each_reads {X : Cx} {pins : List (Addr × Obj)} {σ : L2.St} {H : Hp} {s : Shared} (I : Inv X pins σ H s) : ∀ {bs : List (V × PyData)} {us : List Value}, (∀ b ∈ bs, Dp X.K H b.1 b.2) → PySem.W.EachIs (fun u b => RelV b.1 u) us bs → PySem.W.EachIs (fun u b => ∃ as, Reads s.heap u b.2 as) us bs
  | _, _, _, .nil => .nil
  | b :: bs, _, h, .cons r t => .cons (Dp.reads I b.2 b.1 _ (h b List.mem_cons_self) r) (each_reads I (fun b hb => h b (List.mem_cons_of_mem _ hb)) t)
theorem cr_sortJ {X : Cx} (hu : X.A.units + 64 < cLine) : CallR X (.builtin "sorted") (rSortJ X.K) := by
  intro pins s σ H vs us Q I r h
  obtain ⟨a, bs, rfl, hs, hd, hal, hk, hl, hz, q⟩ := h
  rw [Vals.ref1 r]
  have fin : ∀ (its : List Value) (out : List Value), out.length = bs.length → PySem.W.EachIs (fun u b => RelV b.1 u) out (bs.mergeSort (PySem.W.dataLe false Prod.snd)) →
      EP X pins σ Q (.ref (s.heap.objs.size + 1)) { s with heap := sortedAll s.heap its out.toArray } := by
    intro its out h1 h2
    obtain ⟨ep, he'⟩ := PyProof.Rows.sortedAll_at s.heap its out.toArray
    have hlen : ((bs.mergeSort (PySem.W.dataLe false Prod.snd)).map Prod.fst).length ≤ sizeLine := by rw [List.length_map, List.length_mergeSort]; exact line_of hl
    exact ⟨.ref _, upd H (s.heap.objs.size + 1) (.lst ((bs.mergeSort (PySem.W.dataLe false Prod.snd)).map Prod.fst)), I.laid (t' := s.toks) (fun _ _ => PyProof.Rows.sortedAll_old) (Nat.le_succ _) ⟨hlen, out, ep, each_back h2, he'⟩, rfl, q _ (I.hok.fresh (Nat.le_succ _))⟩
  rcases hs with hs | hs
  · obtain ⟨its, rv, hi, _⟩ := I.list hs
    exact PySem.W.sorted_data hi.isList (each_rel rv) (each_reads I hd (each_rel rv)) hal hk (line_of hl) (fun b hb => by have := hz b hb; omega) (fin its)
  · obtain ⟨its, rv, hi, _⟩ := I.tuple hs
    exact PySem.W.jh_sorted_dataT (show s.heap.IsTuple a its.toArray from hi) (each_rel rv) (each_reads I hd (each_rel rv)) hal hk (line_of hl) (fun b hb => by have := hz b hb; omega) (fin its)
def sortD (ds : List PyData) : List PyData := ds.mergeSort (PySem.W.dataLe false fun d => d)
def fSort : FL := fun cs μ Q => match cs with
  | [c] => (match cellsOf c μ with
    | some xs => (match allD xs with
      | some ds => PySem.W.AllAlike ds ∧ PySem.W.Sortable ds ∧ ds.length ≤ 1000 ∧ (∀ d ∈ ds, d.depth ≤ 32) ∧ Q ((sortD ds).map .d) μ
      | none => False)
    | none => False)
  | _ => False
section
variable {F : Fx}
theorem dq_zip {K : Frg} {H : Hp} : ∀ {vs : List V} {ds : List PyData}, DqAll K H vs ds → ∀ b ∈ vs.zip ds, Dq K H b.1 b.2
  | _, _, .nil, b, h => by cases h
  | _, _, .cons h t, b, hb => by
    rw [List.zip_cons_cons] at hb
    rcases List.mem_cons.mp hb with rfl | hb
    · exact h
    · exact dq_zip t b hb
theorem dq_of_pairs {K : Frg} {H : Hp} : ∀ {bs : List (V × PyData)}, (∀ b ∈ bs, Dq K H b.1 b.2) → DqAll K H (bs.map Prod.fst) (bs.map Prod.snd)
  | [], _ => .nil
  | b :: bs, h => .cons (h b List.mem_cons_self) (dq_of_pairs fun b hb => h b (List.mem_cons_of_mem _ hb))
theorem snd_sortJ : SndCL F (rSortJ F.K) fSort := by
  intro ad H0 H vs cs μ Q R w r1 h k
  unfold fSort at h
  split at h
  · cases r1 with
    | cons r t =>
      cases t
      split at h
      · rename_i xs hx
        split at h
        · rename_i ds hd
          obtain ⟨a, ws, rfl, h1, h2⟩ := cells_at w r hx
          rw [allD_eq hd] at h2
          have h3 := clrs_dq h2
          have e1 : (ws.zip ds).map Prod.fst = ws := List.map_fst_zip (by rw [h3.length]; exact Nat.le_refl _)
          have e2 : (ws.zip ds).map Prod.snd = ds := List.map_snd_zip (by rw [h3.length]; exact Nat.le_refl _)
          have hz := dq_zip h3
          refine ⟨a, ws.zip ds, rfl, ?_, fun b hb => (Dq.mono w.ex (hz b hb)).dp, by rw [e2]; exact h.1, by rw [e2]; exact h.2.1, by rw [List.length_zip]; omega, fun b hb => h.2.2.2.1 b.2 (by rw [← e2]; exact List.mem_map_of_mem hb), ?_⟩
          · rw [e1]
            rcases h1 with h1 | h1
            · exact .inl h1
            · exact .inr h1
          · refine al_new (Gr.refl _ _ _) w ?_ h.2.2.2.2 k
            have hs : ∀ b ∈ (ws.zip ds).mergeSort (PySem.W.dataLe false Prod.snd), Dq F.K H0 b.1 b.2 := fun b hb => hz b ((List.mergeSort_perm _ _).mem_iff.mp hb)
            have e3 : ((ws.zip ds).mergeSort (PySem.W.dataLe false Prod.snd)).map Prod.snd = sortD ds := by
              have e4 := PySem.W.sort_maps (r := PySem.W.dataLe false Prod.snd) (s := PySem.W.dataLe false fun d => d) (l := ws.zip ds) (Prod.snd : V × PyData → PyData) (fun _ _ _ _ => rfl)
              rw [e2] at e4
              exact e4
            have h4 := dq_of_pairs hs
            rw [e3] at h4
            exact dq_clrs h4
        · exact h.elim
      · exact h.elim
  · exact h.elim
theorem cr_sort_all : ∀ X, Fok F X → CallR X (.builtin "sorted") (rSortJ F.K) := fun X h => by
  have := cr_sortJ (X := X) h.room.units
  rw [h.K] at this; exact this
/-! ### min of alike data -/
def rMinD (K : Frg) : List V → Hp → VK → Prop := fun xs H Q => ∃ (a : Addr) (vs : List V) (d : PyData) (ds : List PyData), xs = [.ref a] ∧ SqL K H a vs ∧ DpAll K H vs (d :: ds) ∧ PyData.plainAll (d :: ds) = true ∧ PySem.W.AlikeAll (d :: ds) ∧ PyData.depthAll (d :: ds) ≤ 32 ∧
  ∀ (i : Nat) v, vs[i]? = some v → (d :: ds)[i]? = some (PySem.W.minD d ds) → Q v H
theorem dpAll_len {K : Frg} {H : Hp} : ∀ {vs : List V} {ds : List PyData}, DpAll K H vs ds → vs.length = ds.length
  | _, _, .nil => rfl
  | _, _, .cons _ t => by simp [dpAll_len t]
theorem plain_mem : ∀ {ds : List PyData}, PyData.plainAll ds = true → ∀ d ∈ ds, d.plain = true
  | [], _, d, h => by cases h
  | e :: es, hp, d, h => by
    rw [PyData.plainAll, Bool.and_eq_true] at hp
    rcases List.mem_cons.mp h with rfl | h
    · exact hp.1
    · exact plain_mem hp.2 d h
theorem cr_minJ {X : Cx} (hc : X.calm = true) (hu : X.A.units + 64 < cLine) : CallR X (.builtin "min") (rMinD X.K) := by
  intro pins s σ H vs us Q I r h
  obtain ⟨a, ws, d, ds, rfl, hs, hd, hp, hal, hz, q⟩ := h
  rw [Vals.ref1 r]
  obtain ⟨its, rv, hi, _⟩ := I.list hs
  obtain ⟨as, hr⟩ := Dp.readsAll I (d :: ds) ws its hd rv
  refine PySem.W.min_list_data (I.ok.hd hc) hi.isList (show ReadsAll s.heap its.toArray.toList (d :: ds) as from hr) hal (by omega) fun i v h' tk bs hv hb hk => ?_
  have hv' : its[i]? = some v := by simpa using hv
  have hlt := (List.getElem?_eq_some_iff.mp hv').1
  obtain ⟨x, hx⟩ : ∃ x, ws[i]? = some x := ⟨ws[i]'(by rw [rv.length]; exact hlt), List.getElem?_eq_getElem _⟩
  obtain ⟨y, hy⟩ : ∃ y, (d :: ds)[i]? = some y := ⟨(d :: ds)[i]'(by rw [← dpAll_len hd, rv.length]; exact hlt), List.getElem?_eq_getElem _⟩
  obtain ⟨u, hu1, hu2⟩ := Vals.get rv hx
  rw [hv'] at hu1
  cases hu1
  obtain ⟨cs, hc1, hc2, hc3, _⟩ := PySem.W.readsAll_at hr i v hv'
  have hg : (d :: ds).getD i .none = y := by rw [List.getD_eq_getElem?_getD, hy]; rfl
  rw [hg] at hc1
  have e : y = PySem.W.minD d ds := SeqAt.plain_unique y _ v cs bs (plain_mem hp y (List.mem_of_getElem? hy)) (PySem.W.reads_keeps hk hc1) hb
  exact ⟨x, H, I.kept hk, hu2, q i x hx (by rw [hy, e])⟩
def fMinD : FC := fun cs μ Q => match cs with
  | [c] => (match listOf c μ with
    | some xs => (match allD xs with
      | some (d :: ds) => PySem.W.AlikeAll (d :: ds) ∧ PyData.depthAll (d :: ds) ≤ 32 ∧ Q (.d (PySem.W.minD d ds)) μ
      | _ => False)
    | none => False)
  | _ => False
theorem snd_minJ : SndC F (rMinD F.K) fMinD := by
  intro ad H0 H vs cs μ Q R w r1 h k
  unfold fMinD at h
  split at h
  · cases r1 with
    | cons r t =>
      cases t
      split at h
      · rename_i xs hx
        split at h
        · rename_i d ds hd
          obtain ⟨a, ws, rfl, h1, h2⟩ := list_at w r hx
          rw [allD_eq hd] at h2
          have h3 := clrs_dq h2
          refine ⟨a, ws, d, ds, rfl, SqL.of h1, (h3.mono w.ex).dp, h3.plain, h.1, h.2.1, fun i v hv he => ?_⟩
          obtain ⟨y, hy, hq⟩ := h3.getV hv
          rw [he] at hy
          cases hy
          exact k v (.d _) μ ad H0 H (Gr.refl _ _ _) w hq h.2.2
        · exact h.elim
      · exact h.elim
  · exact h.elim
theorem cr_min_all : ∀ X, Fok F X → CallR X (.builtin "min") (rMinD F.K) := fun X h => by
  have := cr_minJ (X := X) h.calm h.room.units
  rw [h.K] at this; exact this
/-! ### str(n), isinstance -/
def fStrI : FC := fun cs μ Q => match cs with
  | [.d (.int i)] => i.natAbs.log2 < 1920 ∧ Q (.d (.str (toString i))) μ
  | _ => False
theorem snd_str : SndC F (fun xs H Q => ∃ i, xs = [.int i] ∧ i.natAbs.log2 < 1920 ∧ Q (.str (toString i)) H) fStrI := by
  intro ad H0 H vs cs μ Q R w r1 h k
  unfold fStrI at h
  split at h
  · cases r1 with
    | cons r t =>
      cases t; cases r
      exact ⟨_, rfl, h.1, k (.str _) (.d (.str _)) μ ad H0 H (Gr.refl _ _ _) w (Dq.str _) h.2⟩
  · exact h.elim
def aV (v : V) : AX := fun _ _ μ Q => Q (.v v) μ
theorem ae_ty {x : Str} {T : String} {pos : Pos} (hg : GlF F x) (hm : F.mg x = none) (hv : bootBuiltins x = some (.type T)) (hn : x ≠ "__name__") (hd : (x == ("__debug__" : Str)) = false) : AE F (.Name x pos) (aV (.ty T)) :=
  ⟨tC (.ty T), fun X h => pe_bltn (gl_of h hg) (by rw [h.mg]; exact hm) hv rfl hn hd, fun ad H0 H _ _ μ _ _ _ w _ _ h k => k (.ty T) (.v (.ty T)) μ ad H0 H (Gr.refl _ _ _) w rfl h⟩
def fIsi : FC := fun cs μ Q => match cs with
  | [.d (.bool _), .v (.ty T)] => T = "bool" ∧ Q (.d (.bool true)) μ
  | [.d (.tuple _), .v (.ty T)] => T = "tuple" ∧ Q (.d (.bool true)) μ
  | _ => False
theorem snd_isi : SndC F (rIsi F.K) fIsi := by
  intro ad H0 H vs cs μ Q R w r1 h k
  unfold fIsi at h
  split at h
  · cases r1 with
    | cons r t =>
      cases t with
      | cons r' t' =>
        cases t'; cases r
        have e : _ = V.ty _ := r'
        subst e
        obtain ⟨rfl, h⟩ := h
        exact ⟨_, _, .type "bool", .type "bool", true, rfl, .ty _, .base (.bl _), kit_ty (by decide +kernel), k (.bl _) (.d (.bool _)) μ ad H0 H (Gr.refl _ _ _) w (Dq.bl _) h⟩
  · cases r1 with
    | cons r t =>
      cases t with
      | cons r' t' =>
        cases t'
        have e : _ = V.ty _ := r'
        subst e
        obtain ⟨rfl, h⟩ := h
        cases r with
        | tup z1 z2 =>
          refine ⟨_, _, .type "tuple", .type "tuple", true, rfl, .ty _, ?_, kit_ty (by decide +kernel), k (.bl _) (.d (.bool _)) μ ad H0 H (Gr.refl _ _ _) w (Dq.bl _) h⟩
          rcases ex_t w.ex z1 with (z | ⟨o, z⟩) | ⟨o, its, n, z, zc, _⟩
          · exact .base (.tup z)
          · exact .fTuple z
          · exact .kTuple z zc
  · exact h.elim
end
end Jh

set_option Elab.async false
set_option linter.all false
set_option maxRecDepth 100000
set_option maxHeartbeats 4000000
namespace L2
open PySem PySem.Spec PyProof.Rows
theorem jh_tuple_mul1 (l : Addr) (items : Array Value) (n : Nat) (sl : Array (Option Value)) (dd : Option Addr) (u : Tok) (hne : items.isEmpty = false) :
    Meets (Builtin.«tuple.__mul__» ⟨[.ref l, .int 1 u], []⟩) (fun _ R s => s.heap.get? l = some { cls := .type "tuple", dict := dd, data := .seq items n, slots := sl } ∧ R (.ok (.ret (Value.ref l))) s) :=
  .of_wp fun prog w A R s h => by
    obtain ⟨hp, g, d, tk, os⟩ := s
    obtain ⟨hl, h⟩ := h
    have f1 := AutoSeq1.idx_int
    wp_walk using wpAny_loadPart' hl
    exact ⟨_, rfl, h⟩
def rRep1 (K : PySem.W.Frag) : R2 := fun x y H Q => ∃ l xs, x = .ref l ∧ y = .int 1 ∧ SqT K H l xs ∧ xs ≠ [] ∧ Q (.ref l) H
theorem op_rep1 {X : Cx} : OpR X (binaryOp .Mult) (rRep1 X.K) := by
  intro pins s σ H x y v u Q I rx ry h
  obtain ⟨l, xs, rfl, rfl, hT, hne, q⟩ := h
  cases rx
  obtain ⟨t, rfl⟩ := ry
  obtain ⟨its, r, ⟨⟨cls, dd, data, sl⟩, ho, hc, n, hd⟩, hs⟩ := I.tuple hT
  simp only at hc hd
  subst hc hd
  have hle : its.length = xs.length := r.length.symm
  have hn : its ≠ [] := fun e => hne (by
    rw [e] at hle
    exact List.eq_nil_of_length_eq_zero hle.symm)
  have hi : its.toArray.isEmpty = false := by
    cases its with
    | nil => exact absurd rfl hn
    | cons a b => rfl
  refine wpAny_binaryOp_repeat_ref (T := "tuple") (U := "int") (by decide) ⟨_, ho, rfl⟩ (fun s' => typeIs_int s' 1 t) noFill_tuple_mul F.fills_int_mul F.slot_int_rmul repeat_tuple F.slot_int_index.lookup
    (call_meets F.slot_int_rmul (typeIs_int s 1 t) F.entry_int_rmul (F.args_int_rmul_2 _ _) (int_rmul_tuple 1 t l its.toArray n dd sl)
      ⟨ho, rfl, ⟨_, ho, rfl⟩, call_meets F.slot_tuple_mul ⟨_, ho, rfl⟩ F.entry_tuple_mul (F.args_tuple_mul_2 _ _) (jh_tuple_mul1 l its.toArray n sl dd t hi) ⟨ho, ?_⟩⟩)
  exact ⟨.ref l, H, I, rfl, q⟩
end L2
namespace Jh
open PySem PySem.Spec PyProof.Rows L2
section
variable {F : Fx}
/-- a tuple times an int from 1 on -/
def fRepT : F2 := fun x y μ Q => match x, y with
  | .d (.tuple ds), .d (.int k) => ds ≠ [] ∧ 1 ≤ k ∧ k ≤ 1000 ∧ ds.length ≤ 1000 ∧ Q (.d (.tuple (List.replicate k.toNat ds).flatten)) μ
  | _, _ => False
def rRepJ (K : Frg) : R2 := fun x y H Q => rRep1 K x y H Q ∨ rRepT K x y H Q
theorem op_repJ {X : Cx} (h : Fok F X) : OpR X (binaryOp .Mult) (rRepJ F.K) := by
  have := OpR.or (X := X) op_rep1 op_repT
  rw [h.K] at this; exact this
theorem dq_rep {K : Frg} {H : Hp} {vs : List V} {ds : List PyData} (h : DqAll K H vs ds) : ∀ n : Nat, DqAll K H (List.replicate n vs).flatten (List.replicate n ds).flatten
  | 0 => .nil
  | n + 1 => by
    rw [List.replicate_succ, List.replicate_succ, List.flatten_cons, List.flatten_cons]
    exact h.append (dq_rep h n)
theorem snd_repJ : SndOp F (rRepJ F.K) fRepT := by
  intro ad H0 H x y c1 c2 μ Q R w r1 r2 h k
  unfold fRepT at h
  split at h
  · rename_i ds kk
    cases r2
    obtain ⟨hne, h1, h2, h3, hq⟩ := h
    cases r1 with
    | tup s1 d1 =>
      have hne' : ∀ {vs : List V}, vs.length = ds.length → vs ≠ [] := fun e z => hne (by subst z; exact List.eq_nil_of_length_eq_zero e.symm)
      by_cases e : kk = 1
      · subst e
        refine .inl ⟨_, _, rfl, rfl, ex_t w.ex s1, hne' d1.length, ?_⟩
        have e1 : (List.replicate (1 : Int).toNat ds).flatten = ds := by simp
        rw [e1] at hq
        exact k _ (.d (.tuple _)) μ ad H0 H (Gr.refl _ _ _) w (Dq.tup s1 d1) hq
      · refine .inr ⟨_, kk, _, rfl, rfl, ex_t w.ex s1, hne' d1.length, by omega, h2, by rw [d1.length]; exact h3, fun p hp => ?_⟩
        have n := w.none_of hp
        exact k _ (.d (.tuple _)) μ ad _ _ (Gr.frz w hp) (w.frz hp) (Dq.tup (SqT.of upd_same) ((dq_rep d1 _).mono (Ex.upd n.2))) hq
  · exact h.elim
end
end Jh

set_option Elab.async false
set_option linter.all false
set_option maxRecDepth 100000
set_option maxHeartbeats 4000000
namespace Jh
open PySem PySem.Spec PyProof.Rows L2

def top (i : Nat) : Stmt := PySem.Challenge.pw_joinhall_k15_bounds_in_whole_numbers.main.body.getD i (.Pass ⟨0, 0, 0, 0⟩)
theorem boot_len' : bootBuiltins "len" = some (.builtin "len") := by decide +kernel
theorem boot_all' : bootBuiltins "all" = some (.builtin "all") := by decide +kernel
theorem boot_any' : bootBuiltins "any" = some (.builtin "any") := by decide +kernel
theorem boot_abs' : bootBuiltins "abs" = some (.builtin "abs") := by decide +kernel
theorem boot_sorted' : bootBuiltins "sorted" = some (.builtin "sorted") := by decide +kernel
theorem boot_min' : bootBuiltins "min" = some (.builtin "min") := by decide +kernel
theorem boot_max' : bootBuiltins "max" = some (.builtin "max") := by decide +kernel
theorem boot_isinstance' : bootBuiltins "isinstance" = some (.builtin "isinstance") := by decide +kernel
theorem boot_int' : bootBuiltins "int" = some (.type "int") := by decide +kernel
theorem boot_str' : bootBuiltins "str" = some (.type "str") := by decide +kernel
theorem boot_tuple' : bootBuiltins "tuple" = some (.type "tuple") := by decide +kernel
theorem boot_list' : bootBuiltins "list" = some (.type "list") := by decide +kernel
theorem boot_bool' : bootBuiltins "bool" = some (.type "bool") := by decide +kernel
abbrev k_LETTERS : Str := "abcdefghijklmnopqrstuvwxyz"
abbrev k_NAME_SIGNS : Str := "abcdefghijklmnopqrstuvwxyz0123456789"
structure Tx (K : Frg) (mg : Str → Option Value) (C : Addr) : Prop where
  b_len : mg "len" = none
  b_all : mg "all" = none
  b_any : mg "any" = none
  b_abs : mg "abs" = none
  b_sorted : mg "sorted" = none
  b_min : mg "min" = none
  b_max : mg "max" = none
  b_isinstance : mg "isinstance" = none
  b_range : mg "range" = none
  b_int : mg "int" = none
  b_str : mg "str" = none
  b_tuple : mg "tuple" = none
  b_list : mg "list" = none
  b_bool : mg "bool" = none
  f_gcd : mg "gcd" = some (.builtin "math.gcd")
  f_lcm : mg "lcm" = some (.builtin "math.lcm")
  k_TABLE_LIMIT : ∃ t, mg "TABLE_LIMIT" = some (.int 8 t)
  k_ROW_LIMIT : ∃ t, mg "ROW_LIMIT" = some (.int 300 t)
  k_COLUMN_LIMIT : ∃ t, mg "COLUMN_LIMIT" = some (.int 4 t)
  k_NUMBER_LIMIT : ∃ t, mg "NUMBER_LIMIT" = some (.int 999999999 t)
  k_NAME_LIMIT : ∃ t, mg "NAME_LIMIT" = some (.int 20 t)
  k_LETTERS : ∃ t, mg "LETTERS" = some (.str k_LETTERS t)
  k_NAME_SIGNS : ∃ t, mg "NAME_SIGNS" = some (.str k_NAME_SIGNS t)
  k_ATOM_LIMIT : ∃ t, mg "ATOM_LIMIT" = some (.int 8 t)
  k_VARIABLE_LIMIT : ∃ t, mg "VARIABLE_LIMIT" = some (.int 8 t)
  k_PLACE_LIMIT : ∃ t, mg "PLACE_LIMIT" = some (.int 4 t)
  k_POWER_LIMIT : ∃ t, mg "POWER_LIMIT" = some (.int 64 t)
  k_ZERO : ∃ z, mg "ZERO" = some (.ref z) ∧ ∀ H, Dq K H (.ref z) (.tuple [.int 0, .int 1])
  cl : Cls K C
  na_many : NoAttr K C "many"
  na_rows : NoAttr K C "rows"
  na_base : NoAttr K C "base"
  na_others : NoAttr K C "others"
  na_divisor : NoAttr K C "divisor"
section
variable {F : Fx} {X : Cx}
theorem blk_fn (h : Fok F X) (hk : F.sc.kind = .function) : X.env.blockKind = .function := by
  show (if X.env.scope.kind.isAnnotationScope then ScopeKind.function else X.env.scope.kind) = _
  rw [h.sc, hk]; rfl
theorem par_sw {x y z : Str} {b c : Expr} {px py pz pt pt2 pb : Pos} {kt k2 : Nat} {op : Operator} (h : Fok F X) (hk : F.sc.kind = .function) (hx : F.sc.names.lookup x = some .local) (hy : F.sc.names.lookup y = some .local)
    (hp : (py.line == px.line) = true) (hne : ([x, y].eraseDups.length != 2) = false) (hz : (z == ("__debug__" : Str)) = false) :
    swappedStores [.Tuple [.Name x px, .Name y py] kt pt] (.Tuple [.Name z pz, .BinOp b op c pb] k2 pt2) X.env = pure (some [x, y]) := by
  have hk' := blk_fn h hk
  have hx' : X.env.kindOf x = some .local := by show X.env.scope.names.lookup x = _; rw [h.sc]; exact hx
  have hy' : X.env.kindOf y = some .local := by show X.env.scope.names.lookup y = _; rw [h.sc]; exact hy
  have e1 : (px.line == px.line) = true := by simp
  have e2 : [Expr.Name z pz, .BinOp b op c pb].all (foldedForSure 8) = false := rfl
  have e3 : [Expr.Name z pz, .BinOp b op c pb].all (constantsAlone 8) = false := by simp only [List.all_cons, constantsAlone, hz]; rfl
  have e4 : ([x, y].filterMap fun i => some i) = [x, y] := rfl
  unfold swappedStores
  simp only [hk', List.length_cons, List.length_nil, List.any_cons, List.any_nil, List.filterMap_cons, List.filterMap_nil, List.head?_cons, Option.map_some, Option.getD_some, Expr.pos, hx', hy', hp, e1, e2, e3, hne]
  simp
  intro q
  simp at hne
  exact absurd hne q
theorem sub_sw {o1 i1 o2 i2 : Expr} {p1 p2 pt : Pos} {kt : Nat} {e : Expr} (h : Fok F X) (hk : F.sc.kind = .function) : swappedStores [.Tuple [.Subscript o1 i1 p1, .Subscript o2 i2 p2] kt pt] e X.env = pure none := by
  have hk' := blk_fn h hk
  unfold swappedStores
  cases e <;> try rfl
  simp only [hk', List.length_cons, List.length_nil, List.filterMap_cons, List.filterMap_nil]
  split <;> try rfl
  split <;> rfl
end
end Jh

set_option Elab.async false
set_option linter.all false
set_option maxRecDepth 100000
set_option maxHeartbeats 4000000
namespace Jh
open PySem PySem.Spec PyProof.Rows L2
abbrev st_is_name : Stmt := top 18
abbrev ns_is_name : List Str := ["word", "sign"]
theorem sc_is_name : FnScope ns_is_name ["word"] (defScope st_is_name) := ⟨rfl, rfl, rfl, by decide +kernel, rfl, by decide +kernel, by decide +kernel⟩
def a_is_name : ASt :=
    (sSeq (sIf (aOr (aTest (aOp (fEq false) (aVar 0) (aC (.str "")))) (aOr (aTest (aOp (fI pGt) (aCB fLen (aCons (aVar 0) aNil)) (aC (.int (20))))) (aTest (aOp (fIn true) (aIx (aVar 0) (aC (.int 0))) (aC (.str k_LETTERS)))))) (sRet (aC (.bool false))) sNext)
    (sRet (aCB fAll (aCons (aFrz (aLc 1 [1] (aStrI (aVar 0)) aYes (aOp (fIn false) (aVar 1) (aC (.str k_NAME_SIGNS))))) aNil))))
theorem dv_is_name {P : Program} {w : World} {K : Frg} {mg : Str → Option Value} {base : Heap} {C : Addr} (T : Tx K mg C) (E : XK) :
    ASs ⟨P, w, K, mg, base, ns_is_name, defScope st_is_name, 0, E, fun _ => true⟩ (defBody st_is_name) (a_is_name) := by
  have hN : (ns_is_name : List Str).Nodup := sc_is_name.nd
  obtain ⟨_, e_LETTERS⟩ := T.k_LETTERS
  obtain ⟨_, e_NAME_LIMIT⟩ := T.k_NAME_LIMIT
  obtain ⟨_, e_NAME_SIGNS⟩ := T.k_NAME_SIGNS
  have v0 : ∀ {pos : Pos}, AE ⟨P, w, K, mg, base, ns_is_name, defScope st_is_name, 0, E, fun _ => true⟩ (.Name "word" pos) (aVar 0) := ae_var 0 rfl (Or.inl rfl) rfl rfl
  exact (ass_cons (as_if (AWs.pt (aw_or (at_cmp (fun _ h => op_eqJ h) snd_eqJ v0 ae_str rfl) (aw_or (at_cmp (fun _ _ => op_gtJ) snd_I (ae_callB (fun X h => by have := call_len (X := X); rw [h.K] at this; exact this) snd_len rfl T.b_len boot_len' (aa_cons v0 aa_nil) (by decide) rfl (fun _ => rfl) (fun _ => rfl)) (ae_glob (v := .int (20)) rfl e_NAME_LIMIT ⟨_, rfl⟩ (fun _ => .int _) rfl) rfl) (aw_or1 (at_cmp (fun _ h => op_notInJ h) snd_inJ (ae_ix v0 ae_int (fun _ _ => rfl)) (ae_glob (v := .str k_LETTERS) (d := .str k_LETTERS) rfl e_LETTERS ⟨_, rfl⟩ (fun _ => .str _) rfl) rfl))))) (ass_one (as_ret ae_bl)) ass_nil)
    (ass_one (as_ret (ae_callB (cK fun _ h => cr_all h) snd_all rfl T.b_all boot_all' (aa_cons (ae_frz (al_lc (own := [("sign", 1)]) (j := 1) (ai_str v0) hN (by dsimp only [Fx.blk]; decide +kernel) rfl (Or.inl rfl) (Or.inr rfl) (by decide) ats_nil (ae_cmp (fun _ h => op_inJ h) snd_inJ (ae_var 1 rfl (Or.inl rfl) rfl rfl) (ae_glob (v := .str k_NAME_SIGNS) (d := .str k_NAME_SIGNS) rfl e_NAME_SIGNS ⟨_, rfl⟩ (fun _ => .str _) rfl) rfl) (fun _ _ => rfl))) aa_nil) (by decide) rfl (fun _ => rfl) (fun _ => rfl)))))

abbrev st_right_row : Stmt := top 19
abbrev ns_right_row : List Str := ["columns", "row", "number"]
theorem sc_right_row : FnScope ns_right_row ["columns", "row"] (defScope st_right_row) := ⟨rfl, rfl, rfl, by decide +kernel, rfl, by decide +kernel, by decide +kernel⟩
def a_right_row : ASt :=
    (sRet (aAndV (aOp (fEq false) (aCB fLen (aCons (aVar 1) aNil)) (aVar 0)) (aCB fAll (aCons (aFrz (aLc 2 [2] (aSeqI (aVar 1)) aYes (aChain (fI pLe) (fI pLe) (aNeg (aC (.int (999999999)))) (aVar 2) (aC (.int (999999999)))))) aNil))))
theorem dv_right_row {P : Program} {w : World} {K : Frg} {mg : Str → Option Value} {base : Heap} {C : Addr} (T : Tx K mg C) (E : XK) :
    ASs ⟨P, w, K, mg, base, ns_right_row, defScope st_right_row, 0, E, fun _ => true⟩ (defBody st_right_row) (a_right_row) := by
  have hN : (ns_right_row : List Str).Nodup := sc_right_row.nd
  obtain ⟨_, e_NUMBER_LIMIT⟩ := T.k_NUMBER_LIMIT
  have v0 : ∀ {pos : Pos}, AE ⟨P, w, K, mg, base, ns_right_row, defScope st_right_row, 0, E, fun _ => true⟩ (.Name "columns" pos) (aVar 0) := ae_var 0 rfl (Or.inl rfl) rfl rfl
  have v1 : ∀ {pos : Pos}, AE ⟨P, w, K, mg, base, ns_right_row, defScope st_right_row, 0, E, fun _ => true⟩ (.Name "row" pos) (aVar 1) := ae_var 1 rfl (Or.inl rfl) rfl rfl
  exact (ass_one (as_ret (ae_and (ae_cmp (fun _ h => op_eqJ h) snd_eqJ (ae_callB (fun X h => by have := call_len (X := X); rw [h.K] at this; exact this) snd_len rfl T.b_len boot_len' (aa_cons v1 aa_nil) (by decide) rfl (fun _ => rfl) (fun _ => rfl)) v0 rfl) (ae_one (ae_callB (cK fun _ h => cr_all h) snd_all rfl T.b_all boot_all' (aa_cons (ae_frz (al_lc (own := [("number", 2)]) (j := 2) (ai_seq v1) hN (by dsimp only [Fx.blk]; decide +kernel) rfl (Or.inl rfl) (Or.inr rfl) (by decide) ats_nil (ae_chain (fun _ _ => op_leJ) (fun _ _ => op_leJ) snd_I snd_I (ae_neg (ae_glob (v := .int (999999999)) rfl e_NUMBER_LIMIT ⟨_, rfl⟩ (fun _ => .int _) rfl)) (ae_var 2 rfl (Or.inl rfl) rfl rfl) (ae_glob (v := .int (999999999)) rfl e_NUMBER_LIMIT ⟨_, rfl⟩ (fun _ => .int _) rfl) rfl) (fun _ _ => rfl))) aa_nil) (by decide) rfl (fun _ => rfl) (fun _ => rfl))))))

abbrev st_ascend : Stmt := top 20
abbrev ns_ascend : List Str := ["items", "k"]
theorem sc_ascend : FnScope ns_ascend ["items"] (defScope st_ascend) := ⟨rfl, rfl, rfl, by decide +kernel, rfl, by decide +kernel, by decide +kernel⟩
def a_ascend : ASt :=
    (sRet (aCB fAll (aCons (aFrz (aLc 1 [1] (aRg2 (aCons (aC (.int 1)) (aCons (aCB fLen (aCons (aVar 0) aNil)) aNil))) aYes (aOp fLt (aIx (aVar 0) (aOp fSub (aVar 1) (aC (.int 1)))) (aIx (aVar 0) (aVar 1))))) aNil)))
theorem dv_ascend {P : Program} {w : World} {K : Frg} {mg : Str → Option Value} {base : Heap} {C : Addr} (T : Tx K mg C) (E : XK) :
    ASs ⟨P, w, K, mg, base, ns_ascend, defScope st_ascend, 0, E, fun _ => true⟩ (defBody st_ascend) (a_ascend) := by
  have hN : (ns_ascend : List Str).Nodup := sc_ascend.nd
  have v0 : ∀ {pos : Pos}, AE ⟨P, w, K, mg, base, ns_ascend, defScope st_ascend, 0, E, fun _ => true⟩ (.Name "items" pos) (aVar 0) := ae_var 0 rfl (Or.inr (Or.inl rfl)) rfl rfl
  exact (ass_one (as_ret (ae_callB (cK fun _ h => cr_all h) snd_all rfl T.b_all boot_all' (aa_cons (ae_frz (al_lc (own := [("k", 1)]) (j := 1) (ai_rg2 rfl T.b_range (aa_cons ae_int (aa_cons (ae_callB (fun X h => by have := call_len (X := X); rw [h.K] at this; exact this) snd_len rfl T.b_len boot_len' (aa_cons v0 aa_nil) (by decide) rfl (fun _ => rfl) (fun _ => rfl)) aa_nil)) (fun _ => rfl) (fun _ => rfl)) hN (by dsimp only [Fx.blk]; decide +kernel) rfl (Or.inl rfl) (Or.inr rfl) (by decide) ats_nil (ae_cmp (fun _ h => op_ltJ h) snd_ltJ (ae_ix (ae_var 0 rfl (Or.inr (Or.inl rfl)) rfl rfl) (ae_op (fun _ _ => op_sub) snd_sub (ae_var 1 rfl (Or.inl rfl) rfl rfl) ae_int) (fun _ _ => rfl)) (ae_ix (ae_var 0 rfl (Or.inr (Or.inl rfl)) rfl rfl) (ae_var 1 rfl (Or.inl rfl) rfl rfl) (fun _ _ => rfl)) rfl) (fun _ _ => rfl))) aa_nil) (by decide) rfl (fun _ => rfl) (fun _ => rfl))))

abbrev st_right_table : Stmt := top 21
abbrev ns_right_table : List Str := ["table", "name", "columns", "rows", "row"]
theorem sc_right_table : FnScope ns_right_table ["table"] (defScope st_right_table) := ⟨rfl, rfl, rfl, by decide +kernel, rfl, by decide +kernel, by decide +kernel⟩
def a_right_table (r_ascend : RS) (r_is_name : RS) (r_right_row : RS) : ASt :=
    (sSeq (sAsg (aVar 0) (gTu 3 (gsCons (gN 1) (gsCons (gN 2) (gsCons (gN 3) gsNil)))))
    (sSeq (sIf (aOr (aNot (aTest (aCall r_is_name (aCons (aVar 1) aNil)))) (aOr (aTest (aOp fLt (aVar 2) (aC (.int 1)))) (aTest (aOp (fI pGt) (aVar 2) (aC (.int (4))))))) (sRet (aC (.bool false))) sNext)
    (sRet (aAndV (aCB fAll (aCons (aFrz (aLc 4 [4] (aSeqI (aVar 3)) aYes (aCall r_right_row (aCons (aVar 2) (aCons (aVar 4) aNil))))) aNil)) (aCall r_ascend (aCons (aVar 3) aNil))))))
theorem dv_right_table {r_ascend : RS} {r_is_name : RS} {r_right_row : RS} {P : Program} {w : World} {K : Frg} {mg : Str → Option Value} {base : Heap} {C : Addr} (T : Tx K mg C) (E : XK) (C_ascend : Cal P w K mg base 1 "ascend" r_ascend) (C_is_name : Cal P w K mg base 1 "is_name" r_is_name) (C_right_row : Cal P w K mg base 1 "right_row" r_right_row) :
    ASs ⟨P, w, K, mg, base, ns_right_table, defScope st_right_table, 1, E, fun _ => true⟩ (defBody st_right_table) (a_right_table r_ascend r_is_name r_right_row) := by
  have hN : (ns_right_table : List Str).Nodup := sc_right_table.nd
  obtain ⟨_, e_COLUMN_LIMIT⟩ := T.k_COLUMN_LIMIT
  have v0 : ∀ {pos : Pos}, AE ⟨P, w, K, mg, base, ns_right_table, defScope st_right_table, 1, E, fun _ => true⟩ (.Name "table" pos) (aVar 0) := ae_var 0 rfl (Or.inl rfl) rfl rfl
  have v1 : ∀ {pos : Pos}, AE ⟨P, w, K, mg, base, ns_right_table, defScope st_right_table, 1, E, fun _ => true⟩ (.Name "name" pos) (aVar 1) := ae_var 1 rfl (Or.inl rfl) rfl rfl
  have v2 : ∀ {pos : Pos}, AE ⟨P, w, K, mg, base, ns_right_table, defScope st_right_table, 1, E, fun _ => true⟩ (.Name "columns" pos) (aVar 2) := ae_var 2 rfl (Or.inr (Or.inl rfl)) rfl rfl
  have v3 : ∀ {pos : Pos}, AE ⟨P, w, K, mg, base, ns_right_table, defScope st_right_table, 1, E, fun _ => true⟩ (.Name "rows" pos) (aVar 3) := ae_var 3 rfl (Or.inl rfl) rfl rfl
  exact (ass_cons (as_asg v0 (ag_tup (ags_cons (ag_name 1 hN rfl (Or.inl rfl) (Or.inl rfl)) (ags_cons (ag_name 2 hN rfl (Or.inr rfl) (Or.inl rfl)) (ags_cons (ag_name 3 hN rfl (Or.inl rfl) (Or.inl rfl)) ags_nil (fun _ => rfl)) (fun _ => rfl)) (fun _ => rfl)) (fun _ => rfl) (fun _ => rfl)) (fun _ => rfl) (fun _ _ => rfl) (fun _ => rfl))
    (ass_cons (as_if (AWs.pt (aw_or (at_not (at_val (ae_call C_is_name (Nat.le_of_ble_eq_true rfl) rfl (aa_cons v1 aa_nil) rfl (fun _ => rfl) (fun _ => rfl)) (fun _ _ => rfl))) (aw_or (at_cmp (fun _ h => op_ltJ h) snd_ltJ v2 ae_int rfl) (aw_or1 (at_cmp (fun _ _ => op_gtJ) snd_I v2 (ae_glob (v := .int (4)) rfl e_COLUMN_LIMIT ⟨_, rfl⟩ (fun _ => .int _) rfl) rfl))))) (ass_one (as_ret ae_bl)) ass_nil)
    (ass_one (as_ret (ae_and (ae_callB (cK fun _ h => cr_all h) snd_all rfl T.b_all boot_all' (aa_cons (ae_frz (al_lc (own := [("row", 4)]) (j := 4) (ai_seq v3) hN (by dsimp only [Fx.blk]; decide +kernel) rfl (Or.inl rfl) (Or.inr rfl) (by decide) ats_nil (ae_call C_right_row (Nat.le_of_ble_eq_true rfl) rfl (aa_cons (ae_var 2 rfl (Or.inr (Or.inl rfl)) rfl rfl) (aa_cons (ae_var 4 rfl (Or.inl rfl) rfl rfl) aa_nil)) rfl (fun _ => rfl) (fun _ => rfl)) (fun _ _ => rfl))) aa_nil) (by decide) rfl (fun _ => rfl) (fun _ => rfl)) (ae_one (ae_call C_ascend (Nat.le_of_ble_eq_true rfl) rfl (aa_cons v3 aa_nil) rfl (fun _ => rfl) (fun _ => rfl))))))))

abbrev st_check_catalogue : Stmt := top 22
abbrev ns_check_catalogue : List Str := ["catalogue", "table"]
theorem sc_check_catalogue : FnScope ns_check_catalogue ["catalogue"] (defScope st_check_catalogue) := ⟨rfl, rfl, rfl, by decide +kernel, rfl, by decide +kernel, by decide +kernel⟩
def a_check_catalogue (r_ascend : RS) (r_right_table : RS) : ASt :=
    (sSeq (sIf (aOr (aNot (aTest (aCB fAll (aCons (aFrz (aLc 1 [1] (aSeqI (aVar 0)) aYes (aCall r_right_table (aCons (aVar 1) aNil)))) aNil)))) (aNot (aTest (aCall r_ascend (aCons (aFrz (aLc 1 [1] (aSeqI (aVar 0)) aYes (aIx (aVar 1) (aC (.int 0))))) aNil))))) sNever sNext)
    (sIf (aOr (aTest (aOp (fI pGt) (aCB fLen (aCons (aVar 0) aNil)) (aC (.int (8))))) (aTest (aCB fAny (aCons (aFrz (aLc 1 [1] (aSeqI (aVar 0)) aYes (aOp (fI pGt) (aCB fLen (aCons (aIx (aVar 1) (aC (.int 2))) aNil)) (aC (.int (300)))))) aNil)))) sNever sNext))
theorem dv_check_catalogue {r_ascend : RS} {r_right_table : RS} {P : Program} {w : World} {K : Frg} {mg : Str → Option Value} {base : Heap} {C : Addr} (T : Tx K mg C) (E : XK) (C_ascend : Cal P w K mg base 1 "ascend" r_ascend) (C_right_table : Cal P w K mg base 2 "right_table" r_right_table) :
    ASs ⟨P, w, K, mg, base, ns_check_catalogue, defScope st_check_catalogue, 2, E, fun _ => true⟩ (defBody st_check_catalogue) (a_check_catalogue r_ascend r_right_table) := by
  have hN : (ns_check_catalogue : List Str).Nodup := sc_check_catalogue.nd
  obtain ⟨_, e_ROW_LIMIT⟩ := T.k_ROW_LIMIT
  obtain ⟨_, e_TABLE_LIMIT⟩ := T.k_TABLE_LIMIT
  have v0 : ∀ {pos : Pos}, AE ⟨P, w, K, mg, base, ns_check_catalogue, defScope st_check_catalogue, 2, E, fun _ => true⟩ (.Name "catalogue" pos) (aVar 0) := ae_var 0 rfl (Or.inl rfl) rfl rfl
  exact (ass_cons (as_if (AWs.pt (aw_or (at_not (at_val (ae_callB (cK fun _ h => cr_all h) snd_all rfl T.b_all boot_all' (aa_cons (ae_frz (al_lc (own := [("table", 1)]) (j := 1) (ai_seq v0) hN (by dsimp only [Fx.blk]; decide +kernel) rfl (Or.inl rfl) (Or.inr rfl) (by decide) ats_nil (ae_call C_right_table (Nat.le_of_ble_eq_true rfl) rfl (aa_cons (ae_var 1 rfl (Or.inl rfl) rfl rfl) aa_nil) rfl (fun _ => rfl) (fun _ => rfl)) (fun _ _ => rfl))) aa_nil) (by decide) rfl (fun _ => rfl) (fun _ => rfl)) (fun _ _ => rfl))) (aw_or1 (at_not (at_val (ae_call C_ascend (Nat.le_of_ble_eq_true rfl) rfl (aa_cons (ae_frz (al_lc (own := [("table", 1)]) (j := 1) (ai_seq v0) hN (by dsimp only [Fx.blk]; decide +kernel) rfl (Or.inl rfl) (Or.inr rfl) (by decide) ats_nil (ae_ix (ae_var 1 rfl (Or.inl rfl) rfl rfl) ae_int (fun _ _ => rfl)) (fun _ _ => rfl))) aa_nil) rfl (fun _ => rfl) (fun _ => rfl)) (fun _ _ => rfl)))))) (ass_one as_never) ass_nil)
    (ass_one (as_if (AWs.pt (aw_or (at_cmp (fun _ _ => op_gtJ) snd_I (ae_callB (fun X h => by have := call_len (X := X); rw [h.K] at this; exact this) snd_len rfl T.b_len boot_len' (aa_cons v0 aa_nil) (by decide) rfl (fun _ => rfl) (fun _ => rfl)) (ae_glob (v := .int (8)) rfl e_TABLE_LIMIT ⟨_, rfl⟩ (fun _ => .int _) rfl) rfl) (aw_or1 (at_val (ae_callB (cK fun _ h => cr_any h) snd_any rfl T.b_any boot_any' (aa_cons (ae_frz (al_lc (own := [("table", 1)]) (j := 1) (ai_seq v0) hN (by dsimp only [Fx.blk]; decide +kernel) rfl (Or.inl rfl) (Or.inr rfl) (by decide) ats_nil (ae_cmp (fun _ _ => op_gtJ) snd_I (ae_callB (fun X h => by have := call_len (X := X); rw [h.K] at this; exact this) snd_len rfl T.b_len boot_len' (aa_cons (ae_ix (ae_var 1 rfl (Or.inl rfl) rfl rfl) ae_int (fun _ _ => rfl)) aa_nil) (by decide) rfl (fun _ => rfl) (fun _ => rfl)) (ae_glob (v := .int (300)) rfl e_ROW_LIMIT ⟨_, rfl⟩ (fun _ => .int _) rfl) rfl) (fun _ _ => rfl))) aa_nil) (by decide) rfl (fun _ => rfl) (fun _ => rfl)) (fun _ _ => rfl))))) (ass_one as_never) ass_nil)))

abbrev st_place_of : Stmt := top 23
abbrev ns_place_of : List Str := ["catalogue", "name", "k"]
theorem sc_place_of : FnScope ns_place_of ["catalogue", "name"] (defScope st_place_of) := ⟨rfl, rfl, rfl, by decide +kernel, rfl, by decide +kernel, by decide +kernel⟩
def a_place_of : ASt :=
    (sSeq (sFor (aRg1 (aCons (aCB fLen (aCons (aVar 0) aNil)) aNil)) (gN 2) (sIf (aTest (aOp (fEq false) (aIx (aIx (aVar 0) (aVar 2)) (aC (.int 0))) (aVar 1))) (sRet (aVar 2)) sNext))
    (sRet (aNeg (aC (.int 1)))))
theorem dv_place_of {P : Program} {w : World} {K : Frg} {mg : Str → Option Value} {base : Heap} {C : Addr} (T : Tx K mg C) (E : XK) :
    ASs ⟨P, w, K, mg, base, ns_place_of, defScope st_place_of, 0, E, fun _ => true⟩ (defBody st_place_of) (a_place_of) := by
  have hN : (ns_place_of : List Str).Nodup := sc_place_of.nd
  have v0 : ∀ {pos : Pos}, AE ⟨P, w, K, mg, base, ns_place_of, defScope st_place_of, 0, E, fun _ => true⟩ (.Name "catalogue" pos) (aVar 0) := ae_var 0 rfl (Or.inl rfl) rfl rfl
  have v1 : ∀ {pos : Pos}, AE ⟨P, w, K, mg, base, ns_place_of, defScope st_place_of, 0, E, fun _ => true⟩ (.Name "name" pos) (aVar 1) := ae_var 1 rfl (Or.inl rfl) rfl rfl
  have v2 : ∀ {pos : Pos}, AE ⟨P, w, K, mg, base, ns_place_of, defScope st_place_of, 0, E, fun _ => true⟩ (.Name "k" pos) (aVar 2) := ae_var 2 rfl (Or.inl rfl) rfl rfl
  exact (ass_cons (as_for (ai_rg1 rfl T.b_range (aa_cons (ae_callB (fun X h => by have := call_len (X := X); rw [h.K] at this; exact this) snd_len rfl T.b_len boot_len' (aa_cons v0 aa_nil) (by decide) rfl (fun _ => rfl) (fun _ => rfl)) aa_nil) (fun _ => rfl)) (ag_name 2 hN rfl (Or.inl rfl) (Or.inl rfl)) (ass_one (as_if (at_cmp (fun _ h => op_eqJ h) snd_eqJ (ae_ix (ae_ix v0 v2 (fun _ _ => rfl)) ae_int (fun _ _ => rfl)) v1 rfl) (ass_one (as_ret v2)) ass_nil)) (fun _ _ => rfl))
    (ass_one (as_ret (ae_neg ae_int))))

abbrev st_table_at : Stmt := top 24
abbrev ns_table_at : List Str := ["catalogue", "name", "k"]
theorem sc_table_at : FnScope ns_table_at ["catalogue", "name"] (defScope st_table_at) := ⟨rfl, rfl, rfl, by decide +kernel, rfl, by decide +kernel, by decide +kernel⟩
def a_table_at (r_place_of : RS) : ASt :=
    (sSeq (sAsg (aCall r_place_of (aCons (aVar 0) (aCons (aVar 1) aNil))) (gN 2))
    (sSeq (sIf (aTest (aOp fLt (aVar 2) (aC (.int 0)))) sNever sNext)
    (sRet (aIx (aVar 0) (aVar 2)))))
theorem dv_table_at {r_place_of : RS} {P : Program} {w : World} {K : Frg} {mg : Str → Option Value} {base : Heap} {C : Addr} (T : Tx K mg C) (E : XK) (C_place_of : Cal P w K mg base 1 "place_of" r_place_of) :
    ASs ⟨P, w, K, mg, base, ns_table_at, defScope st_table_at, 1, E, fun _ => true⟩ (defBody st_table_at) (a_table_at r_place_of) := by
  have hN : (ns_table_at : List Str).Nodup := sc_table_at.nd
  have v0 : ∀ {pos : Pos}, AE ⟨P, w, K, mg, base, ns_table_at, defScope st_table_at, 1, E, fun _ => true⟩ (.Name "catalogue" pos) (aVar 0) := ae_var 0 rfl (Or.inl rfl) rfl rfl
  have v1 : ∀ {pos : Pos}, AE ⟨P, w, K, mg, base, ns_table_at, defScope st_table_at, 1, E, fun _ => true⟩ (.Name "name" pos) (aVar 1) := ae_var 1 rfl (Or.inl rfl) rfl rfl
  have v2 : ∀ {pos : Pos}, AE ⟨P, w, K, mg, base, ns_table_at, defScope st_table_at, 1, E, fun _ => true⟩ (.Name "k" pos) (aVar 2) := ae_var 2 rfl (Or.inl rfl) rfl rfl
  exact (ass_cons (as_asg (ae_call C_place_of (Nat.le_of_ble_eq_true rfl) rfl (aa_cons v0 (aa_cons v1 aa_nil)) rfl (fun _ => rfl) (fun _ => rfl)) (ag_name 2 hN rfl (Or.inl rfl) (Or.inl rfl)) (fun _ => rfl) (fun _ _ => rfl) (fun _ => rfl))
    (ass_cons (as_if (at_cmp (fun _ h => op_ltJ h) snd_ltJ v2 ae_int rfl) (ass_one as_never) ass_nil)
    (ass_one (as_ret (ae_ix v0 v2 (fun _ _ => rfl))))))

abbrev st_all_variables : Stmt := top 29
abbrev ns_all_variables : List Str := ["pattern", "found", "name", "variables", "variable"]
theorem sc_all_variables : FnScope ns_all_variables ["pattern"] (defScope st_all_variables) := ⟨rfl, rfl, rfl, by decide +kernel, rfl, by decide +kernel, by decide +kernel⟩
def a_all_variables : ASt :=
    (sSeq (sAsg (aOwn (aLst aNil)) (gN 1))
    (sSeq (sFor (aSeqI (aIx (aVar 0) (aC (.int 1)))) (gTu 2 (gsCons (gN 2) (gsCons (gN 3) gsNil))) (sFor (aSeqI (aVar 3)) (gN 4) (sIf (aTest (aOp (fIn true) (aVar 4) (aVar 1))) (sApp (aVar 1) (aVar 4)) sNext)))
    (sRet (aCB fTup (aCons (aVar 1) aNil)))))
theorem dv_all_variables {P : Program} {w : World} {K : Frg} {mg : Str → Option Value} {base : Heap} {C : Addr} (T : Tx K mg C) (E : XK) :
    ASs ⟨P, w, K, mg, base, ns_all_variables, defScope st_all_variables, 0, E, fun _ => true⟩ (defBody st_all_variables) (a_all_variables) := by
  have hN : (ns_all_variables : List Str).Nodup := sc_all_variables.nd
  have v0 : ∀ {pos : Pos}, AE ⟨P, w, K, mg, base, ns_all_variables, defScope st_all_variables, 0, E, fun _ => true⟩ (.Name "pattern" pos) (aVar 0) := ae_var 0 rfl (Or.inl rfl) rfl rfl
  have v1 : ∀ {pos : Pos}, AE ⟨P, w, K, mg, base, ns_all_variables, defScope st_all_variables, 0, E, fun _ => true⟩ (.Name "found" pos) (aVar 1) := ae_var 1 rfl (Or.inl rfl) rfl rfl
  have v3 : ∀ {pos : Pos}, AE ⟨P, w, K, mg, base, ns_all_variables, defScope st_all_variables, 0, E, fun _ => true⟩ (.Name "variables" pos) (aVar 3) := ae_var 3 rfl (Or.inl rfl) rfl rfl
  have v4 : ∀ {pos : Pos}, AE ⟨P, w, K, mg, base, ns_all_variables, defScope st_all_variables, 0, E, fun _ => true⟩ (.Name "variable" pos) (aVar 4) := ae_var 4 rfl (Or.inl rfl) rfl rfl
  exact (ass_cons (as_asg (ae_own (al_lst aa_nil)) (ag_name 1 hN rfl (Or.inl rfl) (Or.inl rfl)) (fun _ => rfl) (fun _ _ => rfl) (fun _ => rfl))
    (ass_cons (as_for (ai_seq (ae_ix v0 ae_int (fun _ _ => rfl))) (ag_tup (ags_cons (ag_name 2 hN rfl (Or.inl rfl) (Or.inl rfl)) (ags_cons (ag_name 3 hN rfl (Or.inl rfl) (Or.inl rfl)) ags_nil (fun _ => rfl)) (fun _ => rfl)) (fun _ => rfl) (fun _ => rfl)) (ass_one (as_for (ai_seq v3) (ag_name 4 hN rfl (Or.inl rfl) (Or.inl rfl)) (ass_one (as_if (at_cmp (fun _ h => op_notInJ h) snd_inJ v4 v1 rfl) (ass_one (as_app v1 v4 (fun _ => rfl) (fun X to t h po pa => pe_bm PySem.F.plainAttrs_list PySem.F.slot_list_append PySem.F.type_list_append mt_append po pa) (fun _ => rfl))) ass_nil)) (fun _ _ => rfl))) (fun _ _ => rfl))
    (ass_one (as_ret (ae_callTy (fun X h => by have := call_tuple_of (X := X); rw [h.K] at this; exact this) snd_tuple rfl T.b_tuple boot_tuple' (aa_cons v1 aa_nil) (by decide) rfl (fun _ => rfl) (fun _ => rfl))))))

abbrev st_right_atoms : Stmt := top 30
abbrev ns_right_atoms : List Str := ["atoms", "columns", "name", "variables", "variable"]
theorem sc_right_atoms : FnScope ns_right_atoms ["atoms"] (defScope st_right_atoms) := ⟨rfl, rfl, rfl, by decide +kernel, rfl, by decide +kernel, by decide +kernel⟩
def a_right_atoms (r_is_name : RS) : ASt :=
    (sSeq (sAsg aDNew (gN 1))
    (sSeq (sFor (aSeqI (aVar 0)) (gTu 2 (gsCons (gN 2) (gsCons (gN 3) gsNil))) (sSeq (sIf (aOr (aNot (aTest (aCall r_is_name (aCons (aVar 2) aNil)))) (aNot (aTest (aChain (fI pLe) (fI pLe) (aC (.int 1)) (aCB fLen (aCons (aVar 3) aNil)) (aC (.int (4))))))) (sRet (aC (.bool false))) sNext)
    (sSeq (sIf (aNot (aTest (aCB fAll (aCons (aFrz (aLc 4 [4] (aSeqI (aVar 3)) aYes (aCall r_is_name (aCons (aVar 4) aNil)))) aNil)))) (sRet (aC (.bool false))) sNext)
    (sSeq (sIf (aTest (aOp (fEq true) (aDGet2 (aVar 1) (aVar 2) (aCB fLen (aCons (aVar 3) aNil))) (aCB fLen (aCons (aVar 3) aNil)))) (sRet (aC (.bool false))) sNext)
    (sDPutA (aVar 1) (aVar 2) (aCB fLen (aCons (aVar 3) aNil)))))))
    (sRet (aOp (fI pGt) (aCB fLen (aCons (aVar 0) aNil)) (aC (.int 0))))))
theorem dv_right_atoms {r_is_name : RS} {P : Program} {w : World} {K : Frg} {mg : Str → Option Value} {base : Heap} {C : Addr} (T : Tx K mg C) (E : XK) (C_is_name : Cal P w K mg base 1 "is_name" r_is_name) :
    ASs ⟨P, w, K, mg, base, ns_right_atoms, defScope st_right_atoms, 1, E, fun _ => true⟩ (defBody st_right_atoms) (a_right_atoms r_is_name) := by
  have hN : (ns_right_atoms : List Str).Nodup := sc_right_atoms.nd
  obtain ⟨_, e_PLACE_LIMIT⟩ := T.k_PLACE_LIMIT
  have v0 : ∀ {pos : Pos}, AE ⟨P, w, K, mg, base, ns_right_atoms, defScope st_right_atoms, 1, E, fun _ => true⟩ (.Name "atoms" pos) (aVar 0) := ae_var 0 rfl (Or.inl rfl) rfl rfl
  have v1 : ∀ {pos : Pos}, AE ⟨P, w, K, mg, base, ns_right_atoms, defScope st_right_atoms, 1, E, fun _ => true⟩ (.Name "columns" pos) (aVar 1) := ae_var 1 rfl (Or.inl rfl) rfl rfl
  have v2 : ∀ {pos : Pos}, AE ⟨P, w, K, mg, base, ns_right_atoms, defScope st_right_atoms, 1, E, fun _ => true⟩ (.Name "name" pos) (aVar 2) := ae_var 2 rfl (Or.inl rfl) rfl rfl
  have v3 : ∀ {pos : Pos}, AE ⟨P, w, K, mg, base, ns_right_atoms, defScope st_right_atoms, 1, E, fun _ => true⟩ (.Name "variables" pos) (aVar 3) := ae_var 3 rfl (Or.inl rfl) rfl rfl
  exact (ass_cons (as_asg ae_dnew (ag_name 1 hN rfl (Or.inl rfl) (Or.inl rfl)) (fun _ => rfl) (fun _ _ => rfl) (fun _ => rfl))
    (ass_cons (as_for (ai_seq v0) (ag_tup (ags_cons (ag_name 2 hN rfl (Or.inl rfl) (Or.inl rfl)) (ags_cons (ag_name 3 hN rfl (Or.inl rfl) (Or.inl rfl)) ags_nil (fun _ => rfl)) (fun _ => rfl)) (fun _ => rfl) (fun _ => rfl)) (ass_cons (as_if (AWs.pt (aw_or (at_not (at_val (ae_call C_is_name (Nat.le_of_ble_eq_true rfl) rfl (aa_cons v2 aa_nil) rfl (fun _ => rfl) (fun _ => rfl)) (fun _ _ => rfl))) (aw_or1 (at_not (at_chain (fun _ _ => op_leJ) (fun _ _ => op_leJ) snd_I snd_I ae_int (ae_callB (fun X h => by have := call_len (X := X); rw [h.K] at this; exact this) snd_len rfl T.b_len boot_len' (aa_cons v3 aa_nil) (by decide) rfl (fun _ => rfl) (fun _ => rfl)) (ae_glob (v := .int (4)) rfl e_PLACE_LIMIT ⟨_, rfl⟩ (fun _ => .int _) rfl) rfl))))) (ass_one (as_ret ae_bl)) ass_nil)
    (ass_cons (as_if (at_not (at_val (ae_callB (cK fun _ h => cr_all h) snd_all rfl T.b_all boot_all' (aa_cons (ae_frz (al_lc (own := [("variable", 4)]) (j := 4) (ai_seq v3) hN (by dsimp only [Fx.blk]; decide +kernel) rfl (Or.inl rfl) (Or.inr rfl) (by decide) ats_nil (ae_call C_is_name (Nat.le_of_ble_eq_true rfl) rfl (aa_cons (ae_var 4 rfl (Or.inl rfl) rfl rfl) aa_nil) rfl (fun _ => rfl) (fun _ => rfl)) (fun _ _ => rfl))) aa_nil) (by decide) rfl (fun _ => rfl) (fun _ => rfl)) (fun _ _ => rfl))) (ass_one (as_ret ae_bl)) ass_nil)
    (ass_cons (as_if (at_cmp (fun _ h => op_neJ h) snd_eqJ (ae_dget2 v1 v2 (ae_callB (fun X h => by have := call_len (X := X); rw [h.K] at this; exact this) snd_len rfl T.b_len boot_len' (aa_cons v3 aa_nil) (by decide) rfl (fun _ => rfl) (fun _ => rfl)) (fun _ => ⟨rfl, rfl, rfl, rfl⟩)) (ae_callB (fun X h => by have := call_len (X := X); rw [h.K] at this; exact this) snd_len rfl T.b_len boot_len' (aa_cons v3 aa_nil) (by decide) rfl (fun _ => rfl) (fun _ => rfl)) rfl) (ass_one (as_ret ae_bl)) ass_nil)
    (ass_one (as_dput v1 v2 (ae_callB (fun X h => by have := call_len (X := X); rw [h.K] at this; exact this) snd_len rfl T.b_len boot_len' (aa_cons v3 aa_nil) (by decide) rfl (fun _ => rfl) (fun _ => rfl)) (fun _ => rfl)))))) (fun _ _ => rfl))
    (ass_one (as_ret (ae_cmp (fun _ _ => op_gtJ) snd_I (ae_callB (fun X h => by have := call_len (X := X); rw [h.K] at this; exact this) snd_len rfl T.b_len boot_len' (aa_cons v0 aa_nil) (by decide) rfl (fun _ => rfl) (fun _ => rfl)) ae_int rfl)))))

abbrev st_check_pattern : Stmt := top 31
abbrev ns_check_pattern : List Str := ["pattern", "head", "atoms", "variables", "good", "variable", "k"]
theorem sc_check_pattern : FnScope ns_check_pattern ["pattern"] (defScope st_check_pattern) := ⟨rfl, rfl, rfl, by decide +kernel, rfl, by decide +kernel, by decide +kernel⟩
def a_check_pattern (r_all_variables : RS) (r_right_atoms : RS) : ASt :=
    (sSeq (sAsg (aVar 0) (gTu 2 (gsCons (gN 1) (gsCons (gN 2) gsNil))))
    (sSeq (sAsg (aCall r_all_variables (aCons (aVar 0) aNil)) (gN 3))
    (sSeq (sAsg (aAndV (aCall r_right_atoms (aCons (aVar 2) aNil)) (aCB fAll (aCons (aFrz (aLc 5 [5] (aSeqI (aVar 1)) aYes (aOp (fIn false) (aVar 5) (aVar 3)))) aNil))) (gN 4))
    (sSeq (sIf (aOr (aNot (aTest (aVar 4))) (aTest (aCB fAny (aCons (aFrz (aLc 6 [6] (aRg1 (aCons (aCB fLen (aCons (aVar 1) aNil)) aNil)) aYes (aOp (fIn false) (aIx (aVar 1) (aVar 6)) (aSlT (aVar 1) aNoP (aSomeP (aVar 6)))))) aNil)))) sNever sNext)
    (sIf (aOr (aTest (aOp (fI pGt) (aCB fLen (aCons (aVar 2) aNil)) (aC (.int (8))))) (aTest (aOp (fI pGt) (aCB fLen (aCons (aVar 3) aNil)) (aC (.int (8)))))) sNever sNext)))))
theorem dv_check_pattern {r_all_variables : RS} {r_right_atoms : RS} {P : Program} {w : World} {K : Frg} {mg : Str → Option Value} {base : Heap} {C : Addr} (T : Tx K mg C) (E : XK) (C_all_variables : Cal P w K mg base 1 "all_variables" r_all_variables) (C_right_atoms : Cal P w K mg base 2 "right_atoms" r_right_atoms) :
    ASs ⟨P, w, K, mg, base, ns_check_pattern, defScope st_check_pattern, 2, E, fun _ => true⟩ (defBody st_check_pattern) (a_check_pattern r_all_variables r_right_atoms) := by
  have hN : (ns_check_pattern : List Str).Nodup := sc_check_pattern.nd
  obtain ⟨_, e_ATOM_LIMIT⟩ := T.k_ATOM_LIMIT
  obtain ⟨_, e_VARIABLE_LIMIT⟩ := T.k_VARIABLE_LIMIT
  have v0 : ∀ {pos : Pos}, AE ⟨P, w, K, mg, base, ns_check_pattern, defScope st_check_pattern, 2, E, fun _ => true⟩ (.Name "pattern" pos) (aVar 0) := ae_var 0 rfl (Or.inl rfl) rfl rfl
  have v1 : ∀ {pos : Pos}, AE ⟨P, w, K, mg, base, ns_check_pattern, defScope st_check_pattern, 2, E, fun _ => true⟩ (.Name "head" pos) (aVar 1) := ae_var 1 rfl (Or.inr (Or.inl rfl)) rfl rfl
  have v2 : ∀ {pos : Pos}, AE ⟨P, w, K, mg, base, ns_check_pattern, defScope st_check_pattern, 2, E, fun _ => true⟩ (.Name "atoms" pos) (aVar 2) := ae_var 2 rfl (Or.inl rfl) rfl rfl
  have v3 : ∀ {pos : Pos}, AE ⟨P, w, K, mg, base, ns_check_pattern, defScope st_check_pattern, 2, E, fun _ => true⟩ (.Name "variables" pos) (aVar 3) := ae_var 3 rfl (Or.inr (Or.inl rfl)) rfl rfl
  have v4 : ∀ {pos : Pos}, AE ⟨P, w, K, mg, base, ns_check_pattern, defScope st_check_pattern, 2, E, fun _ => true⟩ (.Name "good" pos) (aVar 4) := ae_var 4 rfl (Or.inl rfl) rfl rfl
  exact (ass_cons (as_asg v0 (ag_tup (ags_cons (ag_name 1 hN rfl (Or.inr rfl) (Or.inl rfl)) (ags_cons (ag_name 2 hN rfl (Or.inl rfl) (Or.inl rfl)) ags_nil (fun _ => rfl)) (fun _ => rfl)) (fun _ => rfl) (fun _ => rfl)) (fun _ => rfl) (fun _ _ => rfl) (fun _ => rfl))
    (ass_cons (as_asg (ae_call C_all_variables (Nat.le_of_ble_eq_true rfl) rfl (aa_cons v0 aa_nil) rfl (fun _ => rfl) (fun _ => rfl)) (ag_name 3 hN rfl (Or.inr rfl) (Or.inl rfl)) (fun _ => rfl) (fun _ _ => rfl) (fun _ => rfl))
    (ass_cons (as_asg (ae_and (ae_call C_right_atoms (Nat.le_of_ble_eq_true rfl) rfl (aa_cons v2 aa_nil) rfl (fun _ => rfl) (fun _ => rfl)) (ae_one (ae_callB (cK fun _ h => cr_all h) snd_all rfl T.b_all boot_all' (aa_cons (ae_frz (al_lc (own := [("variable", 5)]) (j := 5) (ai_seq v1) hN (by dsimp only [Fx.blk]; decide +kernel) rfl (Or.inl rfl) (Or.inr rfl) (by decide) ats_nil (ae_cmp (fun _ h => op_inJ h) snd_inJ (ae_var 5 rfl (Or.inl rfl) rfl rfl) (ae_var 3 rfl (Or.inr (Or.inl rfl)) rfl rfl) rfl) (fun _ _ => rfl))) aa_nil) (by decide) rfl (fun _ => rfl) (fun _ => rfl)))) (ag_name 4 hN rfl (Or.inl rfl) (Or.inl rfl)) (fun _ => rfl) (fun _ _ => rfl) (fun _ => rfl))
    (ass_cons (as_if (AWs.pt (aw_or (at_not (at_val v4 (fun _ _ => rfl))) (aw_or1 (at_val (ae_callB (cK fun _ h => cr_any h) snd_any rfl T.b_any boot_any' (aa_cons (ae_frz (al_lc (own := [("k", 6)]) (j := 6) (ai_rg1 rfl T.b_range (aa_cons (ae_callB (fun X h => by have := call_len (X := X); rw [h.K] at this; exact this) snd_len rfl T.b_len boot_len' (aa_cons v1 aa_nil) (by decide) rfl (fun _ => rfl) (fun _ => rfl)) aa_nil) (fun _ => rfl)) hN (by dsimp only [Fx.blk]; decide +kernel) rfl (Or.inl rfl) (Or.inr rfl) (by decide) ats_nil (ae_cmp (fun _ h => op_inJ h) snd_inJ (ae_ix (ae_var 1 rfl (Or.inr (Or.inl rfl)) rfl rfl) (ae_var 6 rfl (Or.inl rfl) rfl rfl) (fun _ _ => rfl)) (ae_slT (ae_var 1 rfl (Or.inr (Or.inl rfl)) rfl rfl) ao_none (ao_some (ae_var 6 rfl (Or.inl rfl) rfl rfl))) rfl) (fun _ _ => rfl))) aa_nil) (by decide) rfl (fun _ => rfl) (fun _ => rfl)) (fun _ _ => rfl))))) (ass_one as_never) ass_nil)
    (ass_one (as_if (AWs.pt (aw_or (at_cmp (fun _ _ => op_gtJ) snd_I (ae_callB (fun X h => by have := call_len (X := X); rw [h.K] at this; exact this) snd_len rfl T.b_len boot_len' (aa_cons v2 aa_nil) (by decide) rfl (fun _ => rfl) (fun _ => rfl)) (ae_glob (v := .int (8)) rfl e_ATOM_LIMIT ⟨_, rfl⟩ (fun _ => .int _) rfl) rfl) (aw_or1 (at_cmp (fun _ _ => op_gtJ) snd_I (ae_callB (fun X h => by have := call_len (X := X); rw [h.K] at this; exact this) snd_len rfl T.b_len boot_len' (aa_cons v3 aa_nil) (by decide) rfl (fun _ => rfl) (fun _ => rfl)) (ae_glob (v := .int (8)) rfl e_VARIABLE_LIMIT ⟨_, rfl⟩ (fun _ => .int _) rfl) rfl)))) (ass_one as_never) ass_nil))))))

abbrev st_check_fit : Stmt := top 32
abbrev ns_check_fit : List Str := ["catalogue", "pattern", "name", "variables"]
theorem sc_check_fit : FnScope ns_check_fit ["catalogue", "pattern"] (defScope st_check_fit) := ⟨rfl, rfl, rfl, by decide +kernel, rfl, by decide +kernel, by decide +kernel⟩
def a_check_fit (r_check_catalogue : RS) (r_check_pattern : RS) (r_table_at : RS) : ASt :=
    (sSeq (sExp (aCall r_check_catalogue (aCons (aVar 0) aNil)))
    (sSeq (sExp (aCall r_check_pattern (aCons (aVar 1) aNil)))
    (sFor (aSeqI (aIx (aVar 1) (aC (.int 1)))) (gTu 2 (gsCons (gN 2) (gsCons (gN 3) gsNil))) (sIf (aTest (aOp (fEq true) (aIx (aCall r_table_at (aCons (aVar 0) (aCons (aVar 2) aNil))) (aC (.int 1))) (aCB fLen (aCons (aVar 3) aNil)))) sNever sNext))))
theorem dv_check_fit {r_check_catalogue : RS} {r_check_pattern : RS} {r_table_at : RS} {P : Program} {w : World} {K : Frg} {mg : Str → Option Value} {base : Heap} {C : Addr} (T : Tx K mg C) (E : XK) (C_check_catalogue : Cal P w K mg base 3 "check_catalogue" r_check_catalogue) (C_check_pattern : Cal P w K mg base 3 "check_pattern" r_check_pattern) (C_table_at : Cal P w K mg base 2 "table_at" r_table_at) :
    ASs ⟨P, w, K, mg, base, ns_check_fit, defScope st_check_fit, 3, E, fun _ => true⟩ (defBody st_check_fit) (a_check_fit r_check_catalogue r_check_pattern r_table_at) := by
  have hN : (ns_check_fit : List Str).Nodup := sc_check_fit.nd
  have v0 : ∀ {pos : Pos}, AE ⟨P, w, K, mg, base, ns_check_fit, defScope st_check_fit, 3, E, fun _ => true⟩ (.Name "catalogue" pos) (aVar 0) := ae_var 0 rfl (Or.inl rfl) rfl rfl
  have v1 : ∀ {pos : Pos}, AE ⟨P, w, K, mg, base, ns_check_fit, defScope st_check_fit, 3, E, fun _ => true⟩ (.Name "pattern" pos) (aVar 1) := ae_var 1 rfl (Or.inl rfl) rfl rfl
  have v2 : ∀ {pos : Pos}, AE ⟨P, w, K, mg, base, ns_check_fit, defScope st_check_fit, 3, E, fun _ => true⟩ (.Name "name" pos) (aVar 2) := ae_var 2 rfl (Or.inl rfl) rfl rfl
  have v3 : ∀ {pos : Pos}, AE ⟨P, w, K, mg, base, ns_check_fit, defScope st_check_fit, 3, E, fun _ => true⟩ (.Name "variables" pos) (aVar 3) := ae_var 3 rfl (Or.inl rfl) rfl rfl
  exact (ass_cons (as_expr (ae_call C_check_catalogue (Nat.le_of_ble_eq_true rfl) rfl (aa_cons v0 aa_nil) rfl (fun _ => rfl) (fun _ => rfl)) (fun _ => rfl))
    (ass_cons (as_expr (ae_call C_check_pattern (Nat.le_of_ble_eq_true rfl) rfl (aa_cons v1 aa_nil) rfl (fun _ => rfl) (fun _ => rfl)) (fun _ => rfl))
    (ass_one (as_for (ai_seq (ae_ix v1 ae_int (fun _ _ => rfl))) (ag_tup (ags_cons (ag_name 2 hN rfl (Or.inl rfl) (Or.inl rfl)) (ags_cons (ag_name 3 hN rfl (Or.inl rfl) (Or.inl rfl)) ags_nil (fun _ => rfl)) (fun _ => rfl)) (fun _ => rfl) (fun _ => rfl)) (ass_one (as_if (at_cmp (fun _ h => op_neJ h) snd_eqJ (ae_ix (ae_call C_table_at (Nat.le_of_ble_eq_true rfl) rfl (aa_cons v0 (aa_cons v2 aa_nil)) rfl (fun _ => rfl) (fun _ => rfl)) ae_int (fun _ _ => rfl)) (ae_callB (fun X h => by have := call_len (X := X); rw [h.K] at this; exact this) snd_len rfl T.b_len boot_len' (aa_cons v3 aa_nil) (by decide) rfl (fun _ => rfl) (fun _ => rfl)) rfl) (ass_one as_never) ass_nil)) (fun _ _ => rfl)))))

abbrev st_check_order : Stmt := top 34
abbrev ns_check_order : List Str := ["pattern", "order"]
theorem sc_check_order : FnScope ns_check_order ["pattern", "order"] (defScope st_check_order) := ⟨rfl, rfl, rfl, by decide +kernel, rfl, by decide +kernel, by decide +kernel⟩
def a_check_order (CO : Addr) (r_all_variables : RS) : ASt :=
    (sIf (aTest (aOp (fEq true) (aFrz (aCBL fSort (aCons (aVar 1) aNil))) (aFrz (aCBL fSort (aCons (aCall r_all_variables (aCons (aVar 0) aNil)) aNil))))) (sRaise CO) sNext)
theorem dv_check_order {CO : Addr} {r_all_variables : RS} {P : Program} {w : World} {K : Frg} {mg : Str → Option Value} {base : Heap} {C : Addr} (T : Tx K mg C) (E : XK) (C_all_variables : Cal P w K mg base 1 "all_variables" r_all_variables) (T_OrderError : ∀ sc N k E fn, ExF ⟨P, w, K, mg, base, N, sc, k, E, fn⟩ "OrderError" CO) :
    ASs ⟨P, w, K, mg, base, ns_check_order, defScope st_check_order, 1, E, fun _ => true⟩ (defBody st_check_order) (a_check_order CO r_all_variables) := by
  have hN : (ns_check_order : List Str).Nodup := sc_check_order.nd
  have v0 : ∀ {pos : Pos}, AE ⟨P, w, K, mg, base, ns_check_order, defScope st_check_order, 1, E, fun _ => true⟩ (.Name "pattern" pos) (aVar 0) := ae_var 0 rfl (Or.inl rfl) rfl rfl
  have v1 : ∀ {pos : Pos}, AE ⟨P, w, K, mg, base, ns_check_order, defScope st_check_order, 1, E, fun _ => true⟩ (.Name "order" pos) (aVar 1) := ae_var 1 rfl (Or.inl rfl) rfl rfl
  exact (ass_one (as_if (at_cmp (fun _ h => op_neJ h) snd_eqJ (ae_frz (al_callB cr_sort_all snd_sortJ rfl T.b_sorted boot_sorted' (aa_cons v1 aa_nil) (by decide) rfl (fun _ => rfl) (fun _ => rfl))) (ae_frz (al_callB cr_sort_all snd_sortJ rfl T.b_sorted boot_sorted' (aa_cons (ae_call C_all_variables (Nat.le_of_ble_eq_true rfl) rfl (aa_cons v0 aa_nil) rfl (fun _ => rfl) (fun _ => rfl)) aa_nil) (by decide) rfl (fun _ => rfl) (fun _ => rfl))) rfl) (ass_one (as_raise (T_OrderError _ _ _ _ _) rfl rfl)) ass_nil))

abbrev st_fraction : Stmt := top 37
abbrev ns_fraction : List Str := ["numerator", "denominator", "common"]
theorem sc_fraction : FnScope ns_fraction ["numerator", "denominator"] (defScope st_fraction) := ⟨rfl, rfl, rfl, by decide +kernel, rfl, by decide +kernel, by decide +kernel⟩
def a_fraction : ASt :=
    (sSeq (sIf (aTest (aOp (fEq false) (aVar 1) (aC (.int 0)))) sNever sNext)
    (sSeq (sIf (aTest (aOp fLt (aVar 1) (aC (.int 0)))) (sSeq (sAsg (aNeg (aVar 0)) (gN 0))
    (sAsg (aNeg (aVar 1)) (gN 1))) sNext)
    (sSeq (sAsg (aCB fGcd (aCons (aVar 0) (aCons (aVar 1) aNil))) (gN 2))
    (sRet (aTup (aCons (aOp fDiv (aVar 0) (aVar 2)) (aCons (aOp fDiv (aVar 1) (aVar 2)) aNil)))))))
theorem dv_fraction {P : Program} {w : World} {K : Frg} {mg : Str → Option Value} {base : Heap} {C : Addr} (T : Tx K mg C) (E : XK) :
    ASs ⟨P, w, K, mg, base, ns_fraction, defScope st_fraction, 0, E, fun _ => true⟩ (defBody st_fraction) (a_fraction) := by
  have hN : (ns_fraction : List Str).Nodup := sc_fraction.nd
  have v0 : ∀ {pos : Pos}, AE ⟨P, w, K, mg, base, ns_fraction, defScope st_fraction, 0, E, fun _ => true⟩ (.Name "numerator" pos) (aVar 0) := ae_var 0 rfl (Or.inl rfl) rfl rfl
  have v1 : ∀ {pos : Pos}, AE ⟨P, w, K, mg, base, ns_fraction, defScope st_fraction, 0, E, fun _ => true⟩ (.Name "denominator" pos) (aVar 1) := ae_var 1 rfl (Or.inl rfl) rfl rfl
  have v2 : ∀ {pos : Pos}, AE ⟨P, w, K, mg, base, ns_fraction, defScope st_fraction, 0, E, fun _ => true⟩ (.Name "common" pos) (aVar 2) := ae_var 2 rfl (Or.inl rfl) rfl rfl
  exact (ass_cons (as_if (at_cmp (fun _ h => op_eqJ h) snd_eqJ v1 ae_int rfl) (ass_one as_never) ass_nil)
    (ass_cons (as_if (at_cmp (fun _ h => op_ltJ h) snd_ltJ v1 ae_int rfl) (ass_cons (as_asg (ae_neg v0) (ag_name 0 hN rfl (Or.inl rfl) (Or.inl rfl)) (fun _ => rfl) (fun _ _ => rfl) (fun _ => rfl))
    (ass_one (as_asg (ae_neg v1) (ag_name 1 hN rfl (Or.inl rfl) (Or.inl rfl)) (fun _ => rfl) (fun _ _ => rfl) (fun _ => rfl)))) ass_nil)
    (ass_cons (as_asg (ae_callF (fun _ _ => cr_gcd) snd_gcd rfl T.f_gcd (aa_cons v0 (aa_cons v1 aa_nil)) rfl (fun _ => rfl) (fun _ => rfl)) (ag_name 2 hN rfl (Or.inl rfl) (Or.inl rfl)) (fun _ => rfl) (fun _ _ => rfl) (fun _ => rfl))
    (ass_one (as_ret (ae_tup (aa_cons (ae_op (fun _ _ => op_fdivW) snd_div v0 v2) (aa_cons (ae_op (fun _ _ => op_fdivW) snd_div v1 v2) aa_nil))))))))

abbrev st_tab_init : Stmt := inClass (top 39) 0
abbrev ns_tab_init : List Str := ["self", "sets", "many", "k", "chosen"]
theorem sc_tab_init : FnScope ns_tab_init ["self", "sets", "many"] (defScope st_tab_init) := ⟨rfl, rfl, rfl, by decide +kernel, rfl, by decide +kernel, by decide +kernel⟩
def a_tab_init (C : Addr) : ASt :=
    (sSeq (sFldS C "many" (aVar 0) (aCB fLen (aCons (aVar 1) aNil)))
    (sSeq (sFldS C "rows" (aVar 0) (aOwn (aLst aNil)))
    (sSeq (sFor (aRg1 (aCons (aVar 2) aNil)) (gN 3) (sApp (aFld C "rows" (aVar 0)) (aOwn (aCat (aFrz (aLc 4 [4] (aSeqI (aVar 1)) aYes (aIf (aTest (aOp (fIn false) (aVar 3) (aVar 4))) (aNeg (aC (.int 1))) (aC (.int 0))))) (aFrz (aLst (aCons (aNeg (aC (.int 1))) aNil)))))))
    (sSeq (sApp (aFld C "rows" (aVar 0)) (aOwn (aCat (aFrz (aRep (aFrz (aLst (aCons (aC (.int 1)) aNil))) (aCB fLen (aCons (aVar 1) aNil)))) (aFrz (aLst (aCons (aC (.int 0)) aNil))))))
    (sSeq (sFldS C "base" (aVar 0) (aOwn (aLc 3 [3] (aRg1 (aCons (aVar 2) aNil)) aYes (aOp fAdd (aCB fLen (aCons (aVar 1) aNil)) (aVar 3)))))
    (sSeq (sFldS C "others" (aVar 0) (aOwn (aLRg (aCB fLen (aCons (aVar 1) aNil)))))
    (sFldS C "divisor" (aVar 0) (aC (.int 1)))))))))
theorem dv_tab_init {P : Program} {w : World} {K : Frg} {mg : Str → Option Value} {base : Heap} {C : Addr} (T : Tx K mg C) :
    ASs ⟨P, w, K, mg, base, ns_tab_init, defScope st_tab_init, 0, (fun _ _ _ => False), fun _ => true⟩ (defBody st_tab_init) (a_tab_init C) := by
  have hN : (ns_tab_init : List Str).Nodup := sc_tab_init.nd
  have v0 : ∀ {pos : Pos}, AE ⟨P, w, K, mg, base, ns_tab_init, defScope st_tab_init, 0, (fun _ _ _ => False), fun _ => true⟩ (.Name "self" pos) (aVar 0) := ae_var 0 rfl (Or.inl rfl) rfl rfl
  have v1 : ∀ {pos : Pos}, AE ⟨P, w, K, mg, base, ns_tab_init, defScope st_tab_init, 0, (fun _ _ _ => False), fun _ => true⟩ (.Name "sets" pos) (aVar 1) := ae_var 1 rfl (Or.inr (Or.inl rfl)) rfl rfl
  have v2 : ∀ {pos : Pos}, AE ⟨P, w, K, mg, base, ns_tab_init, defScope st_tab_init, 0, (fun _ _ _ => False), fun _ => true⟩ (.Name "many" pos) (aVar 2) := ae_var 2 rfl (Or.inl rfl) rfl rfl
  exact (ass_cons (as_fld v0 (ae_callB (fun X h => by have := call_len (X := X); rw [h.K] at this; exact this) snd_len rfl T.b_len boot_len' (aa_cons v1 aa_nil) (by decide) rfl (fun _ => rfl) (fun _ => rfl)) T.cl T.na_many (fun _ => rfl))
    (ass_cons (as_fld v0 (ae_own (al_lst aa_nil)) T.cl T.na_rows (fun _ => rfl))
    (ass_cons (as_for (ai_rg1 rfl T.b_range (aa_cons v2 aa_nil) (fun _ => rfl)) (ag_name 3 hN rfl (Or.inr rfl) (Or.inl rfl)) (ass_one (as_app (ae_fld v0 T.cl T.na_rows (fun _ => rfl)) (ae_own (al_cat (ae_frz (al_lc (own := [("chosen", 4)]) (j := 4) (ai_seq v1) hN (by dsimp only [Fx.blk]; decide +kernel) rfl (Or.inl rfl) (Or.inr rfl) (by decide) ats_nil (ae_if (at_cmp (fun _ h => op_inJ h) snd_inJ (ae_var 3 rfl (Or.inr (Or.inl rfl)) rfl rfl) (ae_var 4 rfl (Or.inl rfl) rfl rfl) rfl) (ae_neg ae_int) ae_int) (fun _ _ => rfl))) (ae_frz (al_lst (aa_cons (ae_neg ae_int) aa_nil))))) (fun _ => rfl) (fun X to t h po pa => pe_bm PySem.F.plainAttrs_list PySem.F.slot_list_append PySem.F.type_list_append mt_append po pa) (fun _ => rfl))) (fun _ _ => rfl))
    (ass_cons (as_app (ae_fld v0 T.cl T.na_rows (fun _ => rfl)) (ae_own (al_cat (ae_frz (al_rep (ae_frz (al_lst (aa_cons ae_int aa_nil))) (ae_callB (fun X h => by have := call_len (X := X); rw [h.K] at this; exact this) snd_len rfl T.b_len boot_len' (aa_cons v1 aa_nil) (by decide) rfl (fun _ => rfl) (fun _ => rfl)))) (ae_frz (al_lst (aa_cons ae_int aa_nil))))) (fun _ => rfl) (fun X to t h po pa => pe_bm PySem.F.plainAttrs_list PySem.F.slot_list_append PySem.F.type_list_append mt_append po pa) (fun _ => rfl))
    (ass_cons (as_fld v0 (ae_own (al_lc (own := [("k", 3)]) (j := 3) (ai_rg1 rfl T.b_range (aa_cons v2 aa_nil) (fun _ => rfl)) hN (by dsimp only [Fx.blk]; decide +kernel) rfl (Or.inl rfl) (Or.inr rfl) (by decide) ats_nil (ae_op (fun _ h => op_addJ h) snd_addJ (ae_callB (fun X h => by have := call_len (X := X); rw [h.K] at this; exact this) snd_len rfl T.b_len boot_len' (aa_cons (ae_var 1 rfl (Or.inr (Or.inl rfl)) rfl rfl) aa_nil) (by decide) rfl (fun _ => rfl) (fun _ => rfl)) (ae_var 3 rfl (Or.inl rfl) rfl rfl)) (fun _ _ => rfl))) T.cl T.na_base (fun _ => rfl))
    (ass_cons (as_fld v0 (ae_own (al_listRange rfl T.b_list rfl T.b_range (ae_callB (fun X h => by have := call_len (X := X); rw [h.K] at this; exact this) snd_len rfl T.b_len boot_len' (aa_cons v1 aa_nil) (by decide) rfl (fun _ => rfl) (fun _ => rfl)) (fun _ => rfl) (fun _ => rfl))) T.cl T.na_others (fun _ => rfl))
    (ass_one (as_fld v0 ae_int T.cl T.na_divisor (fun _ => rfl)))))))))

abbrev st_tab_pivot : Stmt := inClass (top 39) 1
abbrev ns_tab_pivot : List Str := ["self", "r", "k", "middle", "p", "i", "row", "fresh", "j", "entry"]
theorem sc_tab_pivot : FnScope ns_tab_pivot ["self", "r", "k"] (defScope st_tab_pivot) := ⟨rfl, rfl, rfl, by decide +kernel, rfl, by decide +kernel, by decide +kernel⟩
def a_tab_pivot (C : Addr) : ASt :=
    (sSeq (sAsg (aIx (aFld C "rows" (aVar 0)) (aVar 1)) (gN 3))
    (sSeq (sAsg (aIx (aVar 3) (aVar 2)) (gN 4))
    (sSeq (sFor (aRg1 (aCons (aCB fLen (aCons (aFld C "rows" (aVar 0)) aNil)) aNil)) (gN 5) (sIf (aTest (aOp (fEq true) (aVar 5) (aVar 1))) (sSeq (sAsg (aIx (aFld C "rows" (aVar 0)) (aVar 5)) (gN 6))
    (sSeq (sLcO 7 (aLc 8 [8] (aRg1 (aCons (aCB fLen (aCons (aVar 6) aNil)) aNil)) aYes (aOp fDiv (aOp fSub (aOp fMul (aIx (aVar 6) (aVar 8)) (aVar 4)) (aOp fMul (aIx (aVar 6) (aVar 2)) (aIx (aVar 3) (aVar 8)))) (aFld C "divisor" (aVar 0)))))
    (sSeq (sAsg (aNeg (aIx (aVar 6) (aVar 2))) (gIx (aVar 7) (aVar 2)))
    (sAsg (aVar 7) (gIx (aFld C "rows" (aVar 0)) (aVar 5)))))) sNext))
    (sSeq (sAsg (aFld C "divisor" (aVar 0)) (gIx (aVar 3) (aVar 2)))
    (sSeq (sFldS C "divisor" (aVar 0) (aVar 4))
    (sSeq (sIf (aTest (aOp fLt (aVar 4) (aC (.int 0)))) (sSeq (sFldS C "divisor" (aVar 0) (aNeg (aVar 4)))
    (sFldS C "rows" (aVar 0) (aOwn (aLc 6 [6] (aSeqI (aFld C "rows" (aVar 0))) aYes (aOwn (aLc 9 [9] (aSeqI (aVar 6)) aYes (aNeg (aVar 9)))))))) sNext)
    (sAsg (aTup (aCons (aIx (aFld C "others" (aVar 0)) (aVar 2)) (aCons (aIx (aFld C "base" (aVar 0)) (aVar 1)) aNil))) (gTu 2 (gsCons (gIx (aFld C "base" (aVar 0)) (aVar 1)) (gsCons (gIx (aFld C "others" (aVar 0)) (aVar 2)) gsNil))))))))))
theorem dv_tab_pivot {P : Program} {w : World} {K : Frg} {mg : Str → Option Value} {base : Heap} {C : Addr} (T : Tx K mg C) :
    ASs ⟨P, w, K, mg, base, ns_tab_pivot, defScope st_tab_pivot, 0, (fun _ _ _ => False), fun _ => true⟩ (defBody st_tab_pivot) (a_tab_pivot C) := by
  have hN : (ns_tab_pivot : List Str).Nodup := sc_tab_pivot.nd
  have v0 : ∀ {pos : Pos}, AE ⟨P, w, K, mg, base, ns_tab_pivot, defScope st_tab_pivot, 0, (fun _ _ _ => False), fun _ => true⟩ (.Name "self" pos) (aVar 0) := ae_var 0 rfl (Or.inr (Or.inl rfl)) rfl rfl
  have v1 : ∀ {pos : Pos}, AE ⟨P, w, K, mg, base, ns_tab_pivot, defScope st_tab_pivot, 0, (fun _ _ _ => False), fun _ => true⟩ (.Name "r" pos) (aVar 1) := ae_var 1 rfl (Or.inl rfl) rfl rfl
  have v2 : ∀ {pos : Pos}, AE ⟨P, w, K, mg, base, ns_tab_pivot, defScope st_tab_pivot, 0, (fun _ _ _ => False), fun _ => true⟩ (.Name "k" pos) (aVar 2) := ae_var 2 rfl (Or.inr (Or.inl rfl)) rfl rfl
  have v3 : ∀ {pos : Pos}, AE ⟨P, w, K, mg, base, ns_tab_pivot, defScope st_tab_pivot, 0, (fun _ _ _ => False), fun _ => true⟩ (.Name "middle" pos) (aVar 3) := ae_var 3 rfl (Or.inr (Or.inl rfl)) rfl rfl
  have v4 : ∀ {pos : Pos}, AE ⟨P, w, K, mg, base, ns_tab_pivot, defScope st_tab_pivot, 0, (fun _ _ _ => False), fun _ => true⟩ (.Name "p" pos) (aVar 4) := ae_var 4 rfl (Or.inr (Or.inl rfl)) rfl rfl
  have v5 : ∀ {pos : Pos}, AE ⟨P, w, K, mg, base, ns_tab_pivot, defScope st_tab_pivot, 0, (fun _ _ _ => False), fun _ => true⟩ (.Name "i" pos) (aVar 5) := ae_var 5 rfl (Or.inl rfl) rfl rfl
  have v6 : ∀ {pos : Pos}, AE ⟨P, w, K, mg, base, ns_tab_pivot, defScope st_tab_pivot, 0, (fun _ _ _ => False), fun _ => true⟩ (.Name "row" pos) (aVar 6) := ae_var 6 rfl (Or.inr (Or.inl rfl)) rfl rfl
  have v7 : ∀ {pos : Pos}, AE ⟨P, w, K, mg, base, ns_tab_pivot, defScope st_tab_pivot, 0, (fun _ _ _ => False), fun _ => true⟩ (.Name "fresh" pos) (aVar 7) := ae_var 7 rfl (Or.inl rfl) rfl rfl
  exact (ass_cons (as_asg (ae_ix (ae_fld v0 T.cl T.na_rows (fun _ => rfl)) v1 (fun _ _ => rfl)) (ag_name 3 hN rfl (Or.inr rfl) (Or.inl rfl)) (fun _ => rfl) (fun _ _ => rfl) (fun _ => rfl))
    (ass_cons (as_asg (ae_ix v3 v2 (fun _ _ => rfl)) (ag_name 4 hN rfl (Or.inr rfl) (Or.inl rfl)) (fun _ => rfl) (fun _ _ => rfl) (fun _ => rfl))
    (ass_cons (as_for (ai_rg1 rfl T.b_range (aa_cons (ae_callB (fun X h => by have := call_len (X := X); rw [h.K] at this; exact this) snd_len rfl T.b_len boot_len' (aa_cons (ae_fld v0 T.cl T.na_rows (fun _ => rfl)) aa_nil) (by decide) rfl (fun _ => rfl) (fun _ => rfl)) aa_nil) (fun _ => rfl)) (ag_name 5 hN rfl (Or.inl rfl) (Or.inl rfl)) (ass_one (as_if (at_cmp (fun _ h => op_neJ h) snd_eqJ v5 v1 rfl) (ass_cons (as_asg (ae_ix (ae_fld v0 T.cl T.na_rows (fun _ => rfl)) v5 (fun _ _ => rfl)) (ag_name 6 hN rfl (Or.inr rfl) (Or.inl rfl)) (fun _ => rfl) (fun _ _ => rfl) (fun _ => rfl))
    (ass_cons (as_lcO (setLc_ps (own := [("j", 8)]) (j := 8) (i := 7) (ai_rg1 rfl T.b_range (aa_cons (ae_callB (fun X h => by have := call_len (X := X); rw [h.K] at this; exact this) snd_len rfl T.b_len boot_len' (aa_cons v6 aa_nil) (by decide) rfl (fun _ => rfl) (fun _ => rfl)) aa_nil) (fun _ => rfl)) hN (by dsimp only [Fx.blk]; decide +kernel) rfl (Or.inl rfl) (Or.inr rfl) (by decide) ats_nil (ae_op (fun _ _ => op_fdivW) snd_div (ae_op (fun _ _ => op_sub) snd_sub (ae_op (fun _ _ => op_mulJ) snd_mulJ (ae_ix (ae_var 6 rfl (Or.inr (Or.inl rfl)) rfl rfl) (ae_var 8 rfl (Or.inl rfl) rfl rfl) (fun _ _ => rfl)) (ae_var 4 rfl (Or.inr (Or.inl rfl)) rfl rfl)) (ae_op (fun _ _ => op_mulJ) snd_mulJ (ae_ix (ae_var 6 rfl (Or.inr (Or.inl rfl)) rfl rfl) (ae_var 2 rfl (Or.inr (Or.inl rfl)) rfl rfl) (fun _ _ => rfl)) (ae_ix (ae_var 3 rfl (Or.inr (Or.inl rfl)) rfl rfl) (ae_var 8 rfl (Or.inl rfl) rfl rfl) (fun _ _ => rfl)))) (ae_fld (ae_var 0 rfl (Or.inr (Or.inl rfl)) rfl rfl) T.cl T.na_divisor (fun _ => rfl))) (fun _ _ => rfl) rfl rfl rfl rfl (by dsimp only [Fx.blk]; decide +kernel)))
    (ass_cons (as_asg (ae_neg (ae_ix v6 v2 (fun _ _ => rfl))) (ag_ix (c := .Constant .none 0 ⟨0, 0, 0, 0⟩) v7 v2 (fun _ _ => rfl)) (fun _ => rfl) (fun _ _ => rfl) (fun _ => rfl))
    (ass_one (as_asg v7 (ag_ix (c := .Constant .none 0 ⟨0, 0, 0, 0⟩) (ae_fld v0 T.cl T.na_rows (fun _ => rfl)) v5 (fun _ _ => rfl)) (fun _ => rfl) (fun _ _ => rfl) (fun _ => rfl)))))) ass_nil)) (fun _ _ => rfl))
    (ass_cons (as_asg (ae_fld v0 T.cl T.na_divisor (fun _ => rfl)) (ag_ix (c := .Constant .none 0 ⟨0, 0, 0, 0⟩) v3 v2 (fun _ _ => rfl)) (fun _ => rfl) (fun _ _ => rfl) (fun _ => rfl))
    (ass_cons (as_fld v0 v4 T.cl T.na_divisor (fun _ => rfl))
    (ass_cons (as_if (at_cmp (fun _ h => op_ltJ h) snd_ltJ v4 ae_int rfl) (ass_cons (as_fld v0 (ae_neg v4) T.cl T.na_divisor (fun _ => rfl))
    (ass_one (as_fld v0 (ae_own (al_lc (own := [("row", 6)]) (j := 6) (ai_seq (ae_fld v0 T.cl T.na_rows (fun _ => rfl))) hN (by dsimp only [Fx.blk]; decide +kernel) rfl (Or.inl rfl) (Or.inr rfl) (by decide) ats_nil (ae_own (al_lc (own := [("entry", 9)]) (j := 9) (ai_seq (ae_var 6 rfl (Or.inl rfl) rfl rfl)) hN (by dsimp only [Fx.blk]; decide +kernel) rfl (Or.inl rfl) (Or.inr rfl) (by decide) ats_nil (ae_neg (ae_var 9 rfl (Or.inl rfl) rfl rfl)) (fun _ _ => rfl))) (fun _ _ => rfl))) T.cl T.na_rows (fun _ => rfl)))) ass_nil)
    (ass_one (as_asg (ae_tup (aa_cons (ae_ix (ae_fld v0 T.cl T.na_others (fun _ => rfl)) v2 (fun _ _ => rfl)) (aa_cons (ae_ix (ae_fld v0 T.cl T.na_base (fun _ => rfl)) v1 (fun _ _ => rfl)) aa_nil))) (ag_tup (ags_cons (ag_ix (c := .Constant .none 0 ⟨0, 0, 0, 0⟩) (ae_fld v0 T.cl T.na_base (fun _ => rfl)) v1 (fun _ _ => rfl)) (ags_cons (ag_ix (c := .Constant .none 0 ⟨0, 0, 0, 0⟩) (ae_fld v0 T.cl T.na_others (fun _ => rfl)) v2 (fun _ _ => rfl)) ags_nil (fun _ => rfl)) (fun _ => rfl)) (fun _ => rfl) (fun _ => rfl)) (fun _ => rfl) (fun _ h => sub_sw h rfl) (fun _ => rfl)))))))))

abbrev st_tab_wrong : Stmt := inClass (top 39) 2
abbrev ns_tab_wrong : List Str := ["self", "found", "i", "j"]
theorem sc_tab_wrong : FnScope ns_tab_wrong ["self"] (defScope st_tab_wrong) := ⟨rfl, rfl, rfl, by decide +kernel, rfl, by decide +kernel, by decide +kernel⟩
def a_tab_wrong (C : Addr) : ASt :=
    (sSeq (sLcF 1 (aLc 2 [2] (aRg1 (aCons (aCB fLen (aCons (aFld C "base" (aVar 0)) aNil)) aNil)) (aTest (aOp fLt (aIx (aIx (aFld C "rows" (aVar 0)) (aVar 2)) (aNeg (aC (.int 1)))) (aC (.int 0)))) (aTup (aCons (aIx (aFld C "base" (aVar 0)) (aVar 2)) (aCons (aVar 2) (aCons (aNeg (aC (.int 1))) aNil))))))
    (sSeq (sAsg (aFrz (aCat (aVar 1) (aFrz (aLc 3 [3] (aRg1 (aCons (aCB fLen (aCons (aFld C "others" (aVar 0)) aNil)) aNil)) (aTest (aOp fLt (aIx (aIx (aFld C "rows" (aVar 0)) (aNeg (aC (.int 1)))) (aVar 3)) (aC (.int 0)))) (aTup (aCons (aIx (aFld C "others" (aVar 0)) (aVar 3)) (aCons (aNeg (aC (.int 1))) (aCons (aVar 3) aNil)))))))) (gN 1))
    (sSeq (sIf (aTest (aOp (fEq false) (aCB fLen (aCons (aVar 1) aNil)) (aC (.int 0)))) (sRet (aC .none)) sNext)
    (sRet (aCB fMinD (aCons (aVar 1) aNil))))))
theorem dv_tab_wrong {P : Program} {w : World} {K : Frg} {mg : Str → Option Value} {base : Heap} {C : Addr} (T : Tx K mg C) :
    ASs ⟨P, w, K, mg, base, ns_tab_wrong, defScope st_tab_wrong, 0, (fun _ _ _ => False), fun _ => true⟩ (defBody st_tab_wrong) (a_tab_wrong C) := by
  have hN : (ns_tab_wrong : List Str).Nodup := sc_tab_wrong.nd
  have v0 : ∀ {pos : Pos}, AE ⟨P, w, K, mg, base, ns_tab_wrong, defScope st_tab_wrong, 0, (fun _ _ _ => False), fun _ => true⟩ (.Name "self" pos) (aVar 0) := ae_var 0 rfl (Or.inr (Or.inl rfl)) rfl rfl
  have v1 : ∀ {pos : Pos}, AE ⟨P, w, K, mg, base, ns_tab_wrong, defScope st_tab_wrong, 0, (fun _ _ _ => False), fun _ => true⟩ (.Name "found" pos) (aVar 1) := ae_var 1 rfl (Or.inl rfl) rfl rfl
  exact (ass_cons (as_lcF (setLc_ps (own := [("i", 2)]) (j := 2) (i := 1) (ai_rg1 rfl T.b_range (aa_cons (ae_callB (fun X h => by have := call_len (X := X); rw [h.K] at this; exact this) snd_len rfl T.b_len boot_len' (aa_cons (ae_fld v0 T.cl T.na_base (fun _ => rfl)) aa_nil) (by decide) rfl (fun _ => rfl) (fun _ => rfl)) aa_nil) (fun _ => rfl)) hN (by dsimp only [Fx.blk]; decide +kernel) rfl (Or.inl rfl) (Or.inr rfl) (by decide) (ats_one (at_cmp (fun _ h => op_ltJ h) snd_ltJ (ae_ix (ae_ix (ae_fld (ae_var 0 rfl (Or.inr (Or.inl rfl)) rfl rfl) T.cl T.na_rows (fun _ => rfl)) (ae_var 2 rfl (Or.inl rfl) rfl rfl) (fun _ _ => rfl)) (ae_neg ae_int) (fun _ _ => rfl)) ae_int rfl)) (ae_tup (aa_cons (ae_ix (ae_fld (ae_var 0 rfl (Or.inr (Or.inl rfl)) rfl rfl) T.cl T.na_base (fun _ => rfl)) (ae_var 2 rfl (Or.inl rfl) rfl rfl) (fun _ _ => rfl)) (aa_cons (ae_var 2 rfl (Or.inl rfl) rfl rfl) (aa_cons (ae_neg ae_int) aa_nil)))) (fun _ _ => rfl) rfl rfl rfl rfl (by dsimp only [Fx.blk]; decide +kernel)))
    (ass_cons (as_asg (ae_frz (al_cat v1 (ae_frz (al_lc (own := [("j", 3)]) (j := 3) (ai_rg1 rfl T.b_range (aa_cons (ae_callB (fun X h => by have := call_len (X := X); rw [h.K] at this; exact this) snd_len rfl T.b_len boot_len' (aa_cons (ae_fld v0 T.cl T.na_others (fun _ => rfl)) aa_nil) (by decide) rfl (fun _ => rfl) (fun _ => rfl)) aa_nil) (fun _ => rfl)) hN (by dsimp only [Fx.blk]; decide +kernel) rfl (Or.inl rfl) (Or.inr rfl) (by decide) (ats_one (at_cmp (fun _ h => op_ltJ h) snd_ltJ (ae_ix (ae_ix (ae_fld (ae_var 0 rfl (Or.inr (Or.inl rfl)) rfl rfl) T.cl T.na_rows (fun _ => rfl)) (ae_neg ae_int) (fun _ _ => rfl)) (ae_var 3 rfl (Or.inl rfl) rfl rfl) (fun _ _ => rfl)) ae_int rfl)) (ae_tup (aa_cons (ae_ix (ae_fld (ae_var 0 rfl (Or.inr (Or.inl rfl)) rfl rfl) T.cl T.na_others (fun _ => rfl)) (ae_var 3 rfl (Or.inl rfl) rfl rfl) (fun _ _ => rfl)) (aa_cons (ae_neg ae_int) (aa_cons (ae_var 3 rfl (Or.inl rfl) rfl rfl) aa_nil)))) (fun _ _ => rfl))))) (ag_name 1 hN rfl (Or.inl rfl) (Or.inl rfl)) (fun _ => rfl) (fun _ _ => rfl) (fun _ => rfl))
    (ass_cons (as_if (at_cmp (fun _ h => op_eqJ h) snd_eqJ (ae_callB (fun X h => by have := call_len (X := X); rw [h.K] at this; exact this) snd_len rfl T.b_len boot_len' (aa_cons v1 aa_nil) (by decide) rfl (fun _ => rfl) (fun _ => rfl)) ae_int rfl) (ass_one (as_ret ae_non)) ass_nil)
    (ass_one (as_ret (ae_callB cr_min_all snd_minJ rfl T.b_min boot_min' (aa_cons v1 aa_nil) (by decide) rfl (fun _ => rfl) (fun _ => rfl)))))))

abbrev st_tab_solve : Stmt := inClass (top 39) 3
abbrev ns_tab_solve : List Str := ["self", "worst", "number", "r", "k", "j", "i"]
theorem sc_tab_solve : FnScope ns_tab_solve ["self"] (defScope st_tab_solve) := ⟨rfl, rfl, rfl, by decide +kernel, rfl, by decide +kernel, by decide +kernel⟩
def a_tab_solve (C : Addr) (r_tab_pivot : RS) (r_tab_wrong : RS) : ASt :=
    (sSeq (sAsg (aMeth C "wrong" r_tab_wrong (aVar 0) aNil) (gN 1))
    (sWhile (aTest (aOp fNotN (aVar 1) (aC .none))) (sSeq (sAsg (aVar 1) (gTu 3 (gsCons (gN 2) (gsCons (gN 3) (gsCons (gN 4) gsNil)))))
    (sSeq (sIf (aTest (aOp (fI pGe) (aVar 3) (aC (.int 0)))) (sAsg (aIx (aCB fMinD (aCons (aFrz (aLc 5 [5] (aRg1 (aCons (aCB fLen (aCons (aFld C "others" (aVar 0)) aNil)) aNil)) (aTest (aOp fLt (aIx (aIx (aFld C "rows" (aVar 0)) (aVar 3)) (aVar 5)) (aC (.int 0)))) (aTup (aCons (aIx (aFld C "others" (aVar 0)) (aVar 5)) (aCons (aVar 5) aNil))))) aNil)) (aC (.int 1))) (gN 4)) (sAsg (aIx (aCB fMinD (aCons (aFrz (aLc 6 [6] (aRg1 (aCons (aCB fLen (aCons (aFld C "base" (aVar 0)) aNil)) aNil)) (aTest (aOp (fI pGt) (aIx (aIx (aFld C "rows" (aVar 0)) (aVar 6)) (aVar 4)) (aC (.int 0)))) (aTup (aCons (aIx (aFld C "base" (aVar 0)) (aVar 6)) (aCons (aVar 6) aNil))))) aNil)) (aC (.int 1))) (gN 3)))
    (sSeq (sExp (aMeth C "pivot" r_tab_pivot (aVar 0) (aCons (aVar 3) (aCons (aVar 4) aNil))))
    (sAsg (aMeth C "wrong" r_tab_wrong (aVar 0) aNil) (gN 1)))))))
theorem dv_tab_solve {r_tab_pivot : RS} {r_tab_wrong : RS} {P : Program} {w : World} {K : Frg} {mg : Str → Option Value} {base : Heap} {C : Addr} (T : Tx K mg C) (C_tab_pivot : Mtd P w K mg base 1 C "pivot" r_tab_pivot) (C_tab_wrong : Mtd P w K mg base 1 C "wrong" r_tab_wrong) :
    ASs ⟨P, w, K, mg, base, ns_tab_solve, defScope st_tab_solve, 1, (fun _ _ _ => False), fun _ => true⟩ (defBody st_tab_solve) (a_tab_solve C r_tab_pivot r_tab_wrong) := by
  have hN : (ns_tab_solve : List Str).Nodup := sc_tab_solve.nd
  have v0 : ∀ {pos : Pos}, AE ⟨P, w, K, mg, base, ns_tab_solve, defScope st_tab_solve, 1, (fun _ _ _ => False), fun _ => true⟩ (.Name "self" pos) (aVar 0) := ae_var 0 rfl (Or.inr (Or.inl rfl)) rfl rfl
  have v1 : ∀ {pos : Pos}, AE ⟨P, w, K, mg, base, ns_tab_solve, defScope st_tab_solve, 1, (fun _ _ _ => False), fun _ => true⟩ (.Name "worst" pos) (aVar 1) := ae_var 1 rfl (Or.inl rfl) rfl rfl
  have v3 : ∀ {pos : Pos}, AE ⟨P, w, K, mg, base, ns_tab_solve, defScope st_tab_solve, 1, (fun _ _ _ => False), fun _ => true⟩ (.Name "r" pos) (aVar 3) := ae_var 3 rfl (Or.inr (Or.inl rfl)) rfl rfl
  have v4 : ∀ {pos : Pos}, AE ⟨P, w, K, mg, base, ns_tab_solve, defScope st_tab_solve, 1, (fun _ _ _ => False), fun _ => true⟩ (.Name "k" pos) (aVar 4) := ae_var 4 rfl (Or.inr (Or.inl rfl)) rfl rfl
  exact (ass_cons (as_asg (ae_meth0 C_tab_wrong (Nat.le_of_ble_eq_true rfl) v0 (fun X f fd ps to h po G hr cl hm hb => pe_meth0 po cl hm G hr hb .nil pass0)) (ag_name 1 hN rfl (Or.inl rfl) (Or.inl rfl)) (fun _ => rfl) (fun _ _ => rfl) (fun _ => rfl))
    (ass_one (as_while (at_cmp (fun _ _ => op_notN) snd_notN v1 ae_non rfl) (ass_cons (as_asg v1 (ag_tup (ags_cons (ag_name 2 hN rfl (Or.inl rfl) (Or.inl rfl)) (ags_cons (ag_name 3 hN rfl (Or.inr rfl) (Or.inl rfl)) (ags_cons (ag_name 4 hN rfl (Or.inr rfl) (Or.inl rfl)) ags_nil (fun _ => rfl)) (fun _ => rfl)) (fun _ => rfl)) (fun _ => rfl) (fun _ => rfl)) (fun _ => rfl) (fun _ _ => rfl) (fun _ => rfl))
    (ass_cons (as_if (at_cmp (fun _ _ => op_geJ) snd_I v3 ae_int rfl) (ass_one (as_asg (ae_ix (ae_callB cr_min_all snd_minJ rfl T.b_min boot_min' (aa_cons (ae_frz (al_lc (own := [("j", 5)]) (j := 5) (ai_rg1 rfl T.b_range (aa_cons (ae_callB (fun X h => by have := call_len (X := X); rw [h.K] at this; exact this) snd_len rfl T.b_len boot_len' (aa_cons (ae_fld v0 T.cl T.na_others (fun _ => rfl)) aa_nil) (by decide) rfl (fun _ => rfl) (fun _ => rfl)) aa_nil) (fun _ => rfl)) hN (by dsimp only [Fx.blk]; decide +kernel) rfl (Or.inl rfl) (Or.inr rfl) (by decide) (ats_one (at_cmp (fun _ h => op_ltJ h) snd_ltJ (ae_ix (ae_ix (ae_fld (ae_var 0 rfl (Or.inr (Or.inl rfl)) rfl rfl) T.cl T.na_rows (fun _ => rfl)) (ae_var 3 rfl (Or.inr (Or.inl rfl)) rfl rfl) (fun _ _ => rfl)) (ae_var 5 rfl (Or.inl rfl) rfl rfl) (fun _ _ => rfl)) ae_int rfl)) (ae_tup (aa_cons (ae_ix (ae_fld (ae_var 0 rfl (Or.inr (Or.inl rfl)) rfl rfl) T.cl T.na_others (fun _ => rfl)) (ae_var 5 rfl (Or.inl rfl) rfl rfl) (fun _ _ => rfl)) (aa_cons (ae_var 5 rfl (Or.inl rfl) rfl rfl) aa_nil))) (fun _ _ => rfl))) aa_nil) (by decide) rfl (fun _ => rfl) (fun _ => rfl)) ae_int (fun _ _ => rfl)) (ag_name 4 hN rfl (Or.inr rfl) (Or.inl rfl)) (fun _ => rfl) (fun _ _ => rfl) (fun _ => rfl))) (ass_one (as_asg (ae_ix (ae_callB cr_min_all snd_minJ rfl T.b_min boot_min' (aa_cons (ae_frz (al_lc (own := [("i", 6)]) (j := 6) (ai_rg1 rfl T.b_range (aa_cons (ae_callB (fun X h => by have := call_len (X := X); rw [h.K] at this; exact this) snd_len rfl T.b_len boot_len' (aa_cons (ae_fld v0 T.cl T.na_base (fun _ => rfl)) aa_nil) (by decide) rfl (fun _ => rfl) (fun _ => rfl)) aa_nil) (fun _ => rfl)) hN (by dsimp only [Fx.blk]; decide +kernel) rfl (Or.inl rfl) (Or.inr rfl) (by decide) (ats_one (at_cmp (fun _ _ => op_gtJ) snd_I (ae_ix (ae_ix (ae_fld (ae_var 0 rfl (Or.inr (Or.inl rfl)) rfl rfl) T.cl T.na_rows (fun _ => rfl)) (ae_var 6 rfl (Or.inl rfl) rfl rfl) (fun _ _ => rfl)) (ae_var 4 rfl (Or.inr (Or.inl rfl)) rfl rfl) (fun _ _ => rfl)) ae_int rfl)) (ae_tup (aa_cons (ae_ix (ae_fld (ae_var 0 rfl (Or.inr (Or.inl rfl)) rfl rfl) T.cl T.na_base (fun _ => rfl)) (ae_var 6 rfl (Or.inl rfl) rfl rfl) (fun _ _ => rfl)) (aa_cons (ae_var 6 rfl (Or.inl rfl) rfl rfl) aa_nil))) (fun _ _ => rfl))) aa_nil) (by decide) rfl (fun _ => rfl) (fun _ => rfl)) ae_int (fun _ _ => rfl)) (ag_name 3 hN rfl (Or.inr rfl) (Or.inl rfl)) (fun _ => rfl) (fun _ _ => rfl) (fun _ => rfl))))
    (ass_cons (as_expr (ae_meth C_tab_pivot (Nat.le_of_ble_eq_true rfl) v0 (aa_cons v3 (aa_cons v4 aa_nil)) (fun X f fd ps to t h po pa G hr cl hm hb => pe_meth po cl hm G hr hb .nil pass0 pa)) (fun _ => rfl))
    (ass_one (as_asg (ae_meth0 C_tab_wrong (Nat.le_of_ble_eq_true rfl) v0 (fun X f fd ps to h po G hr cl hm hb => pe_meth0 po cl hm G hr hb .nil pass0)) (ag_name 1 hN rfl (Or.inl rfl) (Or.inl rfl)) (fun _ => rfl) (fun _ _ => rfl) (fun _ => rfl)))))))))

abbrev st_tab_fractions : Stmt := inClass (top 39) 4
abbrev ns_tab_fractions : List Str := ["self", "found", "i"]
theorem sc_tab_fractions : FnScope ns_tab_fractions ["self"] (defScope st_tab_fractions) := ⟨rfl, rfl, rfl, by decide +kernel, rfl, by decide +kernel, by decide +kernel⟩
def a_tab_fractions (C : Addr) (r_fraction : RS) : ASt :=
    (sSeq (sAsg (aOwn (aRep (aFrz (aLst (aCons (aC (.tuple [.int (0), .int (1)])) aNil))) (aFld C "many" (aVar 0)))) (gN 1))
    (sSeq (sFor (aRg1 (aCons (aCB fLen (aCons (aFld C "base" (aVar 0)) aNil)) aNil)) (gN 2) (sIf (aTest (aOp fLt (aIx (aFld C "base" (aVar 0)) (aVar 2)) (aFld C "many" (aVar 0)))) (sAsg (aCall r_fraction (aCons (aIx (aIx (aFld C "rows" (aVar 0)) (aVar 2)) (aNeg (aC (.int 1)))) (aCons (aFld C "divisor" (aVar 0)) aNil))) (gIx (aVar 1) (aIx (aFld C "base" (aVar 0)) (aVar 2)))) sNext))
    (sRet (aCB fTup (aCons (aVar 1) aNil)))))
theorem dv_tab_fractions {r_fraction : RS} {P : Program} {w : World} {K : Frg} {mg : Str → Option Value} {base : Heap} {C : Addr} (T : Tx K mg C) (C_fraction : Cal P w K mg base 1 "fraction" r_fraction) :
    ASs ⟨P, w, K, mg, base, ns_tab_fractions, defScope st_tab_fractions, 1, (fun _ _ _ => False), fun _ => true⟩ (defBody st_tab_fractions) (a_tab_fractions C r_fraction) := by
  have hN : (ns_tab_fractions : List Str).Nodup := sc_tab_fractions.nd
  obtain ⟨_, e_ZERO⟩ := T.k_ZERO
  have v0 : ∀ {pos : Pos}, AE ⟨P, w, K, mg, base, ns_tab_fractions, defScope st_tab_fractions, 1, (fun _ _ _ => False), fun _ => true⟩ (.Name "self" pos) (aVar 0) := ae_var 0 rfl (Or.inl rfl) rfl rfl
  have v1 : ∀ {pos : Pos}, AE ⟨P, w, K, mg, base, ns_tab_fractions, defScope st_tab_fractions, 1, (fun _ _ _ => False), fun _ => true⟩ (.Name "found" pos) (aVar 1) := ae_var 1 rfl (Or.inl rfl) rfl rfl
  have v2 : ∀ {pos : Pos}, AE ⟨P, w, K, mg, base, ns_tab_fractions, defScope st_tab_fractions, 1, (fun _ _ _ => False), fun _ => true⟩ (.Name "i" pos) (aVar 2) := ae_var 2 rfl (Or.inl rfl) rfl rfl
  exact (ass_cons (as_asg (ae_own (al_rep (ae_frz (al_lst (aa_cons (ae_glob (v := .ref _) rfl e_ZERO.1 rfl e_ZERO.2 rfl) aa_nil))) (ae_fld v0 T.cl T.na_many (fun _ => rfl)))) (ag_name 1 hN rfl (Or.inl rfl) (Or.inl rfl)) (fun _ => rfl) (fun _ _ => rfl) (fun _ => rfl))
    (ass_cons (as_for (ai_rg1 rfl T.b_range (aa_cons (ae_callB (fun X h => by have := call_len (X := X); rw [h.K] at this; exact this) snd_len rfl T.b_len boot_len' (aa_cons (ae_fld v0 T.cl T.na_base (fun _ => rfl)) aa_nil) (by decide) rfl (fun _ => rfl) (fun _ => rfl)) aa_nil) (fun _ => rfl)) (ag_name 2 hN rfl (Or.inl rfl) (Or.inl rfl)) (ass_one (as_if (at_cmp (fun _ h => op_ltJ h) snd_ltJ (ae_ix (ae_fld v0 T.cl T.na_base (fun _ => rfl)) v2 (fun _ _ => rfl)) (ae_fld v0 T.cl T.na_many (fun _ => rfl)) rfl) (ass_one (as_asg (ae_call C_fraction (Nat.le_of_ble_eq_true rfl) rfl (aa_cons (ae_ix (ae_ix (ae_fld v0 T.cl T.na_rows (fun _ => rfl)) v2 (fun _ _ => rfl)) (ae_neg ae_int) (fun _ _ => rfl)) (aa_cons (ae_fld v0 T.cl T.na_divisor (fun _ => rfl)) aa_nil)) rfl (fun _ => rfl) (fun _ => rfl)) (ag_ix (c := .Constant .none 0 ⟨0, 0, 0, 0⟩) v1 (ae_ix (ae_fld v0 T.cl T.na_base (fun _ => rfl)) v2 (fun _ _ => rfl)) (fun _ _ => rfl)) (fun _ => rfl) (fun _ _ => rfl) (fun _ => rfl))) ass_nil)) (fun _ _ => rfl))
    (ass_one (as_ret (ae_callTy (fun X h => by have := call_tuple_of (X := X); rw [h.K] at this; exact this) snd_tuple rfl T.b_tuple boot_tuple' (aa_cons v1 aa_nil) (by decide) rfl (fun _ => rfl) (fun _ => rfl))))))

abbrev st_tab_weights : Stmt := inClass (top 39) 5
abbrev ns_tab_weights : List Str := ["self", "found", "j"]
theorem sc_tab_weights : FnScope ns_tab_weights ["self"] (defScope st_tab_weights) := ⟨rfl, rfl, rfl, by decide +kernel, rfl, by decide +kernel, by decide +kernel⟩
def a_tab_weights (C : Addr) (r_fraction : RS) : ASt :=
    (sSeq (sAsg (aOwn (aRep (aFrz (aLst (aCons (aC (.tuple [.int (0), .int (1)])) aNil))) (aCB fLen (aCons (aFld C "base" (aVar 0)) aNil)))) (gN 1))
    (sSeq (sFor (aRg1 (aCons (aCB fLen (aCons (aFld C "others" (aVar 0)) aNil)) aNil)) (gN 2) (sIf (aTest (aOp (fI pGe) (aIx (aFld C "others" (aVar 0)) (aVar 2)) (aFld C "many" (aVar 0)))) (sAsg (aCall r_fraction (aCons (aIx (aIx (aFld C "rows" (aVar 0)) (aNeg (aC (.int 1)))) (aVar 2)) (aCons (aFld C "divisor" (aVar 0)) aNil))) (gIx (aVar 1) (aOp fSub (aIx (aFld C "others" (aVar 0)) (aVar 2)) (aFld C "many" (aVar 0))))) sNext))
    (sRet (aCB fTup (aCons (aVar 1) aNil)))))
theorem dv_tab_weights {r_fraction : RS} {P : Program} {w : World} {K : Frg} {mg : Str → Option Value} {base : Heap} {C : Addr} (T : Tx K mg C) (C_fraction : Cal P w K mg base 1 "fraction" r_fraction) :
    ASs ⟨P, w, K, mg, base, ns_tab_weights, defScope st_tab_weights, 1, (fun _ _ _ => False), fun _ => true⟩ (defBody st_tab_weights) (a_tab_weights C r_fraction) := by
  have hN : (ns_tab_weights : List Str).Nodup := sc_tab_weights.nd
  obtain ⟨_, e_ZERO⟩ := T.k_ZERO
  have v0 : ∀ {pos : Pos}, AE ⟨P, w, K, mg, base, ns_tab_weights, defScope st_tab_weights, 1, (fun _ _ _ => False), fun _ => true⟩ (.Name "self" pos) (aVar 0) := ae_var 0 rfl (Or.inl rfl) rfl rfl
  have v1 : ∀ {pos : Pos}, AE ⟨P, w, K, mg, base, ns_tab_weights, defScope st_tab_weights, 1, (fun _ _ _ => False), fun _ => true⟩ (.Name "found" pos) (aVar 1) := ae_var 1 rfl (Or.inl rfl) rfl rfl
  have v2 : ∀ {pos : Pos}, AE ⟨P, w, K, mg, base, ns_tab_weights, defScope st_tab_weights, 1, (fun _ _ _ => False), fun _ => true⟩ (.Name "j" pos) (aVar 2) := ae_var 2 rfl (Or.inl rfl) rfl rfl
  exact (ass_cons (as_asg (ae_own (al_rep (ae_frz (al_lst (aa_cons (ae_glob (v := .ref _) rfl e_ZERO.1 rfl e_ZERO.2 rfl) aa_nil))) (ae_callB (fun X h => by have := call_len (X := X); rw [h.K] at this; exact this) snd_len rfl T.b_len boot_len' (aa_cons (ae_fld v0 T.cl T.na_base (fun _ => rfl)) aa_nil) (by decide) rfl (fun _ => rfl) (fun _ => rfl)))) (ag_name 1 hN rfl (Or.inl rfl) (Or.inl rfl)) (fun _ => rfl) (fun _ _ => rfl) (fun _ => rfl))
    (ass_cons (as_for (ai_rg1 rfl T.b_range (aa_cons (ae_callB (fun X h => by have := call_len (X := X); rw [h.K] at this; exact this) snd_len rfl T.b_len boot_len' (aa_cons (ae_fld v0 T.cl T.na_others (fun _ => rfl)) aa_nil) (by decide) rfl (fun _ => rfl) (fun _ => rfl)) aa_nil) (fun _ => rfl)) (ag_name 2 hN rfl (Or.inl rfl) (Or.inl rfl)) (ass_one (as_if (at_cmp (fun _ _ => op_geJ) snd_I (ae_ix (ae_fld v0 T.cl T.na_others (fun _ => rfl)) v2 (fun _ _ => rfl)) (ae_fld v0 T.cl T.na_many (fun _ => rfl)) rfl) (ass_one (as_asg (ae_call C_fraction (Nat.le_of_ble_eq_true rfl) rfl (aa_cons (ae_ix (ae_ix (ae_fld v0 T.cl T.na_rows (fun _ => rfl)) (ae_neg ae_int) (fun _ _ => rfl)) v2 (fun _ _ => rfl)) (aa_cons (ae_fld v0 T.cl T.na_divisor (fun _ => rfl)) aa_nil)) rfl (fun _ => rfl) (fun _ => rfl)) (ag_ix (c := .Constant .none 0 ⟨0, 0, 0, 0⟩) v1 (ae_op (fun _ _ => op_sub) snd_sub (ae_ix (ae_fld v0 T.cl T.na_others (fun _ => rfl)) v2 (fun _ _ => rfl)) (ae_fld v0 T.cl T.na_many (fun _ => rfl))) (fun _ _ => rfl)) (fun _ => rfl) (fun _ _ => rfl) (fun _ => rfl))) ass_nil)) (fun _ _ => rfl))
    (ass_one (as_ret (ae_callTy (fun X h => by have := call_tuple_of (X := X); rw [h.K] at this; exact this) snd_tuple rfl T.b_tuple boot_tuple' (aa_cons v1 aa_nil) (by decide) rfl (fun _ => rfl) (fun _ => rfl))))))

abbrev st_best_pair : Stmt := top 40
abbrev ns_best_pair : List Str := ["sets", "many", "tableau"]
theorem sc_best_pair : FnScope ns_best_pair ["sets", "many"] (defScope st_best_pair) := ⟨rfl, rfl, rfl, by decide +kernel, rfl, by decide +kernel, by decide +kernel⟩
def a_best_pair (C : Addr) (r_tab_fractions : RS) (r_tab_init : RS) (r_tab_solve : RS) (r_tab_weights : RS) : ASt :=
    (sSeq (sAsg (aMake C r_tab_init (aCons (aVar 0) (aCons (aVar 1) aNil))) (gN 2))
    (sSeq (sExp (aMeth C "solve" r_tab_solve (aVar 2) aNil))
    (sRet (aTup (aCons (aMeth C "fractions" r_tab_fractions (aVar 2) aNil) (aCons (aMeth C "weights" r_tab_weights (aVar 2) aNil) aNil))))))
theorem dv_best_pair {r_tab_fractions : RS} {r_tab_init : RS} {r_tab_solve : RS} {r_tab_weights : RS} {P : Program} {w : World} {K : Frg} {mg : Str → Option Value} {base : Heap} {C : Addr} (T : Tx K mg C) (E : XK) (C_tab_init : Mkr P w K mg base 1 C "Tableau" r_tab_init) (C_tab_fractions : Mtd P w K mg base 2 C "fractions" r_tab_fractions) (C_tab_solve : Mtd P w K mg base 2 C "solve" r_tab_solve) (C_tab_weights : Mtd P w K mg base 2 C "weights" r_tab_weights) :
    ASs ⟨P, w, K, mg, base, ns_best_pair, defScope st_best_pair, 2, E, fun _ => true⟩ (defBody st_best_pair) (a_best_pair C r_tab_fractions r_tab_init r_tab_solve r_tab_weights) := by
  have hN : (ns_best_pair : List Str).Nodup := sc_best_pair.nd
  have v0 : ∀ {pos : Pos}, AE ⟨P, w, K, mg, base, ns_best_pair, defScope st_best_pair, 2, E, fun _ => true⟩ (.Name "sets" pos) (aVar 0) := ae_var 0 rfl (Or.inl rfl) rfl rfl
  have v1 : ∀ {pos : Pos}, AE ⟨P, w, K, mg, base, ns_best_pair, defScope st_best_pair, 2, E, fun _ => true⟩ (.Name "many" pos) (aVar 1) := ae_var 1 rfl (Or.inl rfl) rfl rfl
  have v2 : ∀ {pos : Pos}, AE ⟨P, w, K, mg, base, ns_best_pair, defScope st_best_pair, 2, E, fun _ => true⟩ (.Name "tableau" pos) (aVar 2) := ae_var 2 rfl (Or.inl rfl) rfl rfl
  exact (ass_cons (as_asg (ae_make C_tab_init (Nat.le_of_ble_eq_true rfl) rfl (aa_cons v0 (aa_cons v1 aa_nil)) rfl (fun _ => rfl) (fun _ => rfl)) (ag_name 2 hN rfl (Or.inl rfl) (Or.inl rfl)) (fun _ => rfl) (fun _ _ => rfl) (fun _ => rfl))
    (ass_cons (as_expr (ae_meth0 C_tab_solve (Nat.le_of_ble_eq_true rfl) v2 (fun X f fd ps to h po G hr cl hm hb => pe_meth0 po cl hm G hr hb .nil pass0)) (fun _ => rfl))
    (ass_one (as_ret (ae_tup (aa_cons (ae_meth0 C_tab_fractions (Nat.le_of_ble_eq_true rfl) v2 (fun X f fd ps to h po G hr cl hm hb => pe_meth0 po cl hm G hr hb .nil pass0)) (aa_cons (ae_meth0 C_tab_weights (Nat.le_of_ble_eq_true rfl) v2 (fun X f fd ps to h po G hr cl hm hb => pe_meth0 po cl hm G hr hb .nil pass0)) aa_nil)))))))

abbrev st_right_numbers : Stmt := top 43
abbrev ns_right_numbers : List Str := ["numbers", "many", "number"]
theorem sc_right_numbers : FnScope ns_right_numbers ["numbers", "many"] (defScope st_right_numbers) := ⟨rfl, rfl, rfl, by decide +kernel, rfl, by decide +kernel, by decide +kernel⟩
def a_right_numbers : ASt :=
    (sRet (aAndV (aOp (fEq false) (aCB fLen (aCons (aVar 0) aNil)) (aVar 1)) (aCB fAll (aCons (aFrz (aLc 2 [2] (aSeqI (aVar 0)) aYes (aOp (fI pGe) (aIx (aVar 2) (aC (.int 0))) (aC (.int 0))))) aNil))))
theorem dv_right_numbers {P : Program} {w : World} {K : Frg} {mg : Str → Option Value} {base : Heap} {C : Addr} (T : Tx K mg C) (E : XK) :
    ASs ⟨P, w, K, mg, base, ns_right_numbers, defScope st_right_numbers, 0, E, fun _ => true⟩ (defBody st_right_numbers) (a_right_numbers) := by
  have hN : (ns_right_numbers : List Str).Nodup := sc_right_numbers.nd
  have v0 : ∀ {pos : Pos}, AE ⟨P, w, K, mg, base, ns_right_numbers, defScope st_right_numbers, 0, E, fun _ => true⟩ (.Name "numbers" pos) (aVar 0) := ae_var 0 rfl (Or.inl rfl) rfl rfl
  have v1 : ∀ {pos : Pos}, AE ⟨P, w, K, mg, base, ns_right_numbers, defScope st_right_numbers, 0, E, fun _ => true⟩ (.Name "many" pos) (aVar 1) := ae_var 1 rfl (Or.inl rfl) rfl rfl
  exact (ass_one (as_ret (ae_and (ae_cmp (fun _ h => op_eqJ h) snd_eqJ (ae_callB (fun X h => by have := call_len (X := X); rw [h.K] at this; exact this) snd_len rfl T.b_len boot_len' (aa_cons v0 aa_nil) (by decide) rfl (fun _ => rfl) (fun _ => rfl)) v1 rfl) (ae_one (ae_callB (cK fun _ h => cr_all h) snd_all rfl T.b_all boot_all' (aa_cons (ae_frz (al_lc (own := [("number", 2)]) (j := 2) (ai_seq v0) hN (by dsimp only [Fx.blk]; decide +kernel) rfl (Or.inl rfl) (Or.inr rfl) (by decide) ats_nil (ae_cmp (fun _ _ => op_geJ) snd_I (ae_ix (ae_var 2 rfl (Or.inl rfl) rfl rfl) ae_int (fun _ _ => rfl)) ae_int rfl) (fun _ _ => rfl))) aa_nil) (by decide) rfl (fun _ => rfl) (fun _ => rfl))))))

abbrev st_best_for : Stmt := top 44
abbrev ns_best_for : List Str := ["pattern", "chosen", "sets", "name", "variables", "k"]
theorem sc_best_for : FnScope ns_best_for ["pattern", "chosen"] (defScope st_best_for) := ⟨rfl, rfl, rfl, by decide +kernel, rfl, by decide +kernel, by decide +kernel⟩
def a_best_for (r_best_pair : RS) : ASt :=
    (sSeq (sAsg (aOwn (aLst aNil)) (gN 2))
    (sSeq (sFor (aSeqI (aIx (aVar 0) (aC (.int 1)))) (gTu 2 (gsCons (gN 3) (gsCons (gN 4) gsNil))) (sApp (aVar 2) (aFrz (aLc 5 [5] (aRg1 (aCons (aCB fLen (aCons (aVar 1) aNil)) aNil)) (aTest (aOp (fIn false) (aIx (aVar 1) (aVar 5)) (aVar 4))) (aVar 5)))))
    (sRet (aCall r_best_pair (aCons (aVar 2) (aCons (aCB fLen (aCons (aVar 1) aNil)) aNil))))))
theorem dv_best_for {r_best_pair : RS} {P : Program} {w : World} {K : Frg} {mg : Str → Option Value} {base : Heap} {C : Addr} (T : Tx K mg C) (E : XK) (C_best_pair : Cal P w K mg base 3 "best_pair" r_best_pair) :
    ASs ⟨P, w, K, mg, base, ns_best_for, defScope st_best_for, 3, E, fun _ => true⟩ (defBody st_best_for) (a_best_for r_best_pair) := by
  have hN : (ns_best_for : List Str).Nodup := sc_best_for.nd
  have v0 : ∀ {pos : Pos}, AE ⟨P, w, K, mg, base, ns_best_for, defScope st_best_for, 3, E, fun _ => true⟩ (.Name "pattern" pos) (aVar 0) := ae_var 0 rfl (Or.inl rfl) rfl rfl
  have v1 : ∀ {pos : Pos}, AE ⟨P, w, K, mg, base, ns_best_for, defScope st_best_for, 3, E, fun _ => true⟩ (.Name "chosen" pos) (aVar 1) := ae_var 1 rfl (Or.inr (Or.inl rfl)) rfl rfl
  have v2 : ∀ {pos : Pos}, AE ⟨P, w, K, mg, base, ns_best_for, defScope st_best_for, 3, E, fun _ => true⟩ (.Name "sets" pos) (aVar 2) := ae_var 2 rfl (Or.inl rfl) rfl rfl
  exact (ass_cons (as_asg (ae_own (al_lst aa_nil)) (ag_name 2 hN rfl (Or.inl rfl) (Or.inl rfl)) (fun _ => rfl) (fun _ _ => rfl) (fun _ => rfl))
    (ass_cons (as_for (ai_seq (ae_ix v0 ae_int (fun _ _ => rfl))) (ag_tup (ags_cons (ag_name 3 hN rfl (Or.inl rfl) (Or.inl rfl)) (ags_cons (ag_name 4 hN rfl (Or.inr rfl) (Or.inl rfl)) ags_nil (fun _ => rfl)) (fun _ => rfl)) (fun _ => rfl) (fun _ => rfl)) (ass_one (as_app v2 (ae_frz (al_lc (own := [("k", 5)]) (j := 5) (ai_rg1 rfl T.b_range (aa_cons (ae_callB (fun X h => by have := call_len (X := X); rw [h.K] at this; exact this) snd_len rfl T.b_len boot_len' (aa_cons v1 aa_nil) (by decide) rfl (fun _ => rfl) (fun _ => rfl)) aa_nil) (fun _ => rfl)) hN (by dsimp only [Fx.blk]; decide +kernel) rfl (Or.inl rfl) (Or.inr rfl) (by decide) (ats_one (at_cmp (fun _ h => op_inJ h) snd_inJ (ae_ix (ae_var 1 rfl (Or.inr (Or.inl rfl)) rfl rfl) (ae_var 5 rfl (Or.inl rfl) rfl rfl) (fun _ _ => rfl)) (ae_var 4 rfl (Or.inr (Or.inl rfl)) rfl rfl) rfl)) (ae_var 5 rfl (Or.inl rfl) rfl rfl) (fun _ _ => rfl))) (fun _ => rfl) (fun X to t h po pa => pe_bm PySem.F.plainAttrs_list PySem.F.slot_list_append PySem.F.type_list_append mt_append po pa) (fun _ => rfl))) (fun _ _ => rfl))
    (ass_one (as_ret (ae_call C_best_pair (Nat.le_of_ble_eq_true rfl) rfl (aa_cons v2 (aa_cons (ae_callB (fun X h => by have := call_len (X := X); rw [h.K] at this; exact this) snd_len rfl T.b_len boot_len' (aa_cons v1 aa_nil) (by decide) rfl (fun _ => rfl) (fun _ => rfl)) aa_nil)) rfl (fun _ => rfl) (fun _ => rfl))))))

abbrev st_bound_for : Stmt := top 45
abbrev ns_bound_for : List Str := ["catalogue", "pattern", "cover", "q", "number", "product", "k", "power", "many", "j"]
theorem sc_bound_for : FnScope ns_bound_for ["catalogue", "pattern", "cover"] (defScope st_bound_for) := ⟨rfl, rfl, rfl, by decide +kernel, rfl, by decide +kernel, by decide +kernel⟩
def a_bound_for (CC : Addr) (r_table_at : RS) : ASt :=
    (sSeq (sAsg (aC (.int 1)) (gN 3))
    (sSeq (sFor (aSeqI (aVar 2)) (gN 4) (sAsg (aCB fLcm (aCons (aVar 3) (aCons (aIx (aVar 4) (aC (.int 1))) aNil))) (gN 3)))
    (sSeq (sAsg (aC (.int 1)) (gN 5))
    (sSeq (sFor (aRg1 (aCons (aCB fLen (aCons (aVar 2) aNil)) aNil)) (gN 6) (sSeq (sAsg (aOp fMul (aOp fDiv (aVar 3) (aIx (aIx (aVar 2) (aVar 6)) (aC (.int 1)))) (aIx (aIx (aVar 2) (aVar 6)) (aC (.int 0)))) (gN 7))
    (sSeq (sIf (aTest (aOp (fI pGt) (aVar 7) (aC (.int (64))))) (sRaise CC) sNext)
    (sSeq (sAsg (aCB fLen (aCons (aIx (aCall r_table_at (aCons (aVar 0) (aCons (aIx (aIx (aIx (aVar 1) (aC (.int 1))) (aVar 6)) (aC (.int 0))) aNil))) (aC (.int 2))) aNil)) (gN 8))
    (sFor (aRg1 (aCons (aVar 7) aNil)) (gN 9) (sAsg (aOp fMul (aVar 5) (aVar 8)) (gN 5)))))))
    (sRet (aTup (aCons (aVar 3) (aCons (aVar 5) aNil))))))))
theorem dv_bound_for {CC : Addr} {r_table_at : RS} {P : Program} {w : World} {K : Frg} {mg : Str → Option Value} {base : Heap} {C : Addr} (T : Tx K mg C) (E : XK) (C_table_at : Cal P w K mg base 2 "table_at" r_table_at) (T_CoverError : ∀ sc N k E fn, ExF ⟨P, w, K, mg, base, N, sc, k, E, fn⟩ "CoverError" CC) :
    ASs ⟨P, w, K, mg, base, ns_bound_for, defScope st_bound_for, 2, E, fun _ => true⟩ (defBody st_bound_for) (a_bound_for CC r_table_at) := by
  have hN : (ns_bound_for : List Str).Nodup := sc_bound_for.nd
  obtain ⟨_, e_POWER_LIMIT⟩ := T.k_POWER_LIMIT
  have v0 : ∀ {pos : Pos}, AE ⟨P, w, K, mg, base, ns_bound_for, defScope st_bound_for, 2, E, fun _ => true⟩ (.Name "catalogue" pos) (aVar 0) := ae_var 0 rfl (Or.inl rfl) rfl rfl
  have v1 : ∀ {pos : Pos}, AE ⟨P, w, K, mg, base, ns_bound_for, defScope st_bound_for, 2, E, fun _ => true⟩ (.Name "pattern" pos) (aVar 1) := ae_var 1 rfl (Or.inl rfl) rfl rfl
  have v2 : ∀ {pos : Pos}, AE ⟨P, w, K, mg, base, ns_bound_for, defScope st_bound_for, 2, E, fun _ => true⟩ (.Name "cover" pos) (aVar 2) := ae_var 2 rfl (Or.inl rfl) rfl rfl
  have v3 : ∀ {pos : Pos}, AE ⟨P, w, K, mg, base, ns_bound_for, defScope st_bound_for, 2, E, fun _ => true⟩ (.Name "q" pos) (aVar 3) := ae_var 3 rfl (Or.inl rfl) rfl rfl
  have v4 : ∀ {pos : Pos}, AE ⟨P, w, K, mg, base, ns_bound_for, defScope st_bound_for, 2, E, fun _ => true⟩ (.Name "number" pos) (aVar 4) := ae_var 4 rfl (Or.inl rfl) rfl rfl
  have v5 : ∀ {pos : Pos}, AE ⟨P, w, K, mg, base, ns_bound_for, defScope st_bound_for, 2, E, fun _ => true⟩ (.Name "product" pos) (aVar 5) := ae_var 5 rfl (Or.inl rfl) rfl rfl
  have v6 : ∀ {pos : Pos}, AE ⟨P, w, K, mg, base, ns_bound_for, defScope st_bound_for, 2, E, fun _ => true⟩ (.Name "k" pos) (aVar 6) := ae_var 6 rfl (Or.inl rfl) rfl rfl
  have v7 : ∀ {pos : Pos}, AE ⟨P, w, K, mg, base, ns_bound_for, defScope st_bound_for, 2, E, fun _ => true⟩ (.Name "power" pos) (aVar 7) := ae_var 7 rfl (Or.inl rfl) rfl rfl
  have v8 : ∀ {pos : Pos}, AE ⟨P, w, K, mg, base, ns_bound_for, defScope st_bound_for, 2, E, fun _ => true⟩ (.Name "many" pos) (aVar 8) := ae_var 8 rfl (Or.inl rfl) rfl rfl
  exact (ass_cons (as_asg ae_int (ag_name 3 hN rfl (Or.inl rfl) (Or.inl rfl)) (fun _ => rfl) (fun _ _ => rfl) (fun _ => rfl))
    (ass_cons (as_for (ai_seq v2) (ag_name 4 hN rfl (Or.inl rfl) (Or.inl rfl)) (ass_one (as_asg (ae_callF (fun _ _ => cr_lcm) snd_lcm rfl T.f_lcm (aa_cons v3 (aa_cons (ae_ix v4 ae_int (fun _ _ => rfl)) aa_nil)) rfl (fun _ => rfl) (fun _ => rfl)) (ag_name 3 hN rfl (Or.inl rfl) (Or.inl rfl)) (fun _ => rfl) (fun _ _ => rfl) (fun _ => rfl))) (fun _ _ => rfl))
    (ass_cons (as_asg ae_int (ag_name 5 hN rfl (Or.inl rfl) (Or.inl rfl)) (fun _ => rfl) (fun _ _ => rfl) (fun _ => rfl))
    (ass_cons (as_for (ai_rg1 rfl T.b_range (aa_cons (ae_callB (fun X h => by have := call_len (X := X); rw [h.K] at this; exact this) snd_len rfl T.b_len boot_len' (aa_cons v2 aa_nil) (by decide) rfl (fun _ => rfl) (fun _ => rfl)) aa_nil) (fun _ => rfl)) (ag_name 6 hN rfl (Or.inl rfl) (Or.inl rfl)) (ass_cons (as_asg (ae_op (fun _ _ => op_mulJ) snd_mulJ (ae_op (fun _ _ => op_fdivW) snd_div v3 (ae_ix (ae_ix v2 v6 (fun _ _ => rfl)) ae_int (fun _ _ => rfl))) (ae_ix (ae_ix v2 v6 (fun _ _ => rfl)) ae_int (fun _ _ => rfl))) (ag_name 7 hN rfl (Or.inl rfl) (Or.inl rfl)) (fun _ => rfl) (fun _ _ => rfl) (fun _ => rfl))
    (ass_cons (as_if (at_cmp (fun _ _ => op_gtJ) snd_I v7 (ae_glob (v := .int (64)) rfl e_POWER_LIMIT ⟨_, rfl⟩ (fun _ => .int _) rfl) rfl) (ass_one (as_raise (T_CoverError _ _ _ _ _) rfl rfl)) ass_nil)
    (ass_cons (as_asg (ae_callB (fun X h => by have := call_len (X := X); rw [h.K] at this; exact this) snd_len rfl T.b_len boot_len' (aa_cons (ae_ix (ae_call C_table_at (Nat.le_of_ble_eq_true rfl) rfl (aa_cons v0 (aa_cons (ae_ix (ae_ix (ae_ix v1 ae_int (fun _ _ => rfl)) v6 (fun _ _ => rfl)) ae_int (fun _ _ => rfl)) aa_nil)) rfl (fun _ => rfl) (fun _ => rfl)) ae_int (fun _ _ => rfl)) aa_nil) (by decide) rfl (fun _ => rfl) (fun _ => rfl)) (ag_name 8 hN rfl (Or.inl rfl) (Or.inl rfl)) (fun _ => rfl) (fun _ _ => rfl) (fun _ => rfl))
    (ass_one (as_for (ai_rg1 rfl T.b_range (aa_cons v7 aa_nil) (fun _ => rfl)) (ag_name 9 hN rfl (Or.inl rfl) (Or.inl rfl)) (ass_one (as_asg (ae_op (fun _ _ => op_mulJ) snd_mulJ v5 v8) (ag_name 5 hN rfl (Or.inl rfl) (Or.inl rfl)) (fun _ => rfl) (fun _ _ => rfl) (fun _ => rfl))) (fun _ _ => rfl)))))) (fun _ _ => rfl))
    (ass_one (as_ret (ae_tup (aa_cons v3 (aa_cons v5 aa_nil)))))))))

abbrev st_bound_of : Stmt := top 46
abbrev ns_bound_of : List Str := ["catalogue", "pattern", "cover"]
theorem sc_bound_of : FnScope ns_bound_of ["catalogue", "pattern", "cover"] (defScope st_bound_of) := ⟨rfl, rfl, rfl, by decide +kernel, rfl, by decide +kernel, by decide +kernel⟩
def a_bound_of (CC : Addr) (r_bound_for : RS) (r_check_fit : RS) (r_right_numbers : RS) : ASt :=
    (sSeq (sExp (aCall r_check_fit (aCons (aVar 0) (aCons (aVar 1) aNil))))
    (sSeq (sIf (aNot (aTest (aCall r_right_numbers (aCons (aVar 2) (aCons (aCB fLen (aCons (aIx (aVar 1) (aC (.int 1))) aNil)) aNil))))) (sRaise CC) sNext)
    (sRet (aCall r_bound_for (aCons (aVar 0) (aCons (aVar 1) (aCons (aVar 2) aNil)))))))
theorem dv_bound_of {CC : Addr} {r_bound_for : RS} {r_check_fit : RS} {r_right_numbers : RS} {P : Program} {w : World} {K : Frg} {mg : Str → Option Value} {base : Heap} {C : Addr} (T : Tx K mg C) (E : XK) (C_bound_for : Cal P w K mg base 3 "bound_for" r_bound_for) (C_check_fit : Cal P w K mg base 4 "check_fit" r_check_fit) (C_right_numbers : Cal P w K mg base 1 "right_numbers" r_right_numbers) (T_CoverError : ∀ sc N k E fn, ExF ⟨P, w, K, mg, base, N, sc, k, E, fn⟩ "CoverError" CC) :
    ASs ⟨P, w, K, mg, base, ns_bound_of, defScope st_bound_of, 4, E, fun _ => true⟩ (defBody st_bound_of) (a_bound_of CC r_bound_for r_check_fit r_right_numbers) := by
  have hN : (ns_bound_of : List Str).Nodup := sc_bound_of.nd
  have v0 : ∀ {pos : Pos}, AE ⟨P, w, K, mg, base, ns_bound_of, defScope st_bound_of, 4, E, fun _ => true⟩ (.Name "catalogue" pos) (aVar 0) := ae_var 0 rfl (Or.inl rfl) rfl rfl
  have v1 : ∀ {pos : Pos}, AE ⟨P, w, K, mg, base, ns_bound_of, defScope st_bound_of, 4, E, fun _ => true⟩ (.Name "pattern" pos) (aVar 1) := ae_var 1 rfl (Or.inl rfl) rfl rfl
  have v2 : ∀ {pos : Pos}, AE ⟨P, w, K, mg, base, ns_bound_of, defScope st_bound_of, 4, E, fun _ => true⟩ (.Name "cover" pos) (aVar 2) := ae_var 2 rfl (Or.inl rfl) rfl rfl
  exact (ass_cons (as_expr (ae_call C_check_fit (Nat.le_of_ble_eq_true rfl) rfl (aa_cons v0 (aa_cons v1 aa_nil)) rfl (fun _ => rfl) (fun _ => rfl)) (fun _ => rfl))
    (ass_cons (as_if (at_not (at_val (ae_call C_right_numbers (Nat.le_of_ble_eq_true rfl) rfl (aa_cons v2 (aa_cons (ae_callB (fun X h => by have := call_len (X := X); rw [h.K] at this; exact this) snd_len rfl T.b_len boot_len' (aa_cons (ae_ix v1 ae_int (fun _ _ => rfl)) aa_nil) (by decide) rfl (fun _ => rfl) (fun _ => rfl)) aa_nil)) rfl (fun _ => rfl) (fun _ => rfl)) (fun _ _ => rfl))) (ass_one (as_raise (T_CoverError _ _ _ _ _) rfl rfl)) ass_nil)
    (ass_one (as_ret (ae_call C_bound_for (Nat.le_of_ble_eq_true rfl) rfl (aa_cons v0 (aa_cons v1 (aa_cons v2 aa_nil))) rfl (fun _ => rfl) (fun _ => rfl))))))

abbrev st_within : Stmt := top 47
abbrev ns_within : List Str := ["number", "bound", "q", "product", "power", "k"]
theorem sc_within : FnScope ns_within ["number", "bound"] (defScope st_within) := ⟨rfl, rfl, rfl, by decide +kernel, rfl, by decide +kernel, by decide +kernel⟩
def a_within : ASt :=
    (sSeq (sAsg (aVar 1) (gTu 2 (gsCons (gN 2) (gsCons (gN 3) gsNil))))
    (sSeq (sAsg (aC (.int 1)) (gN 4))
    (sSeq (sFor (aRg1 (aCons (aVar 2) aNil)) (gN 5) (sSeq (sAsg (aOp fMul (aVar 4) (aVar 0)) (gN 4))
    (sIf (aAnd (aTest (aOp (fI pGt) (aVar 0) (aC (.int 1)))) (aTest (aOp (fI pGt) (aVar 4) (aVar 3)))) (sRet (aC (.bool false))) sNext)))
    (sRet (aOp (fI pLe) (aVar 4) (aVar 3))))))
theorem dv_within {P : Program} {w : World} {K : Frg} {mg : Str → Option Value} {base : Heap} {C : Addr} (T : Tx K mg C) (E : XK) :
    ASs ⟨P, w, K, mg, base, ns_within, defScope st_within, 0, E, fun _ => true⟩ (defBody st_within) (a_within) := by
  have hN : (ns_within : List Str).Nodup := sc_within.nd
  have v0 : ∀ {pos : Pos}, AE ⟨P, w, K, mg, base, ns_within, defScope st_within, 0, E, fun _ => true⟩ (.Name "number" pos) (aVar 0) := ae_var 0 rfl (Or.inl rfl) rfl rfl
  have v1 : ∀ {pos : Pos}, AE ⟨P, w, K, mg, base, ns_within, defScope st_within, 0, E, fun _ => true⟩ (.Name "bound" pos) (aVar 1) := ae_var 1 rfl (Or.inl rfl) rfl rfl
  have v2 : ∀ {pos : Pos}, AE ⟨P, w, K, mg, base, ns_within, defScope st_within, 0, E, fun _ => true⟩ (.Name "q" pos) (aVar 2) := ae_var 2 rfl (Or.inl rfl) rfl rfl
  have v3 : ∀ {pos : Pos}, AE ⟨P, w, K, mg, base, ns_within, defScope st_within, 0, E, fun _ => true⟩ (.Name "product" pos) (aVar 3) := ae_var 3 rfl (Or.inl rfl) rfl rfl
  have v4 : ∀ {pos : Pos}, AE ⟨P, w, K, mg, base, ns_within, defScope st_within, 0, E, fun _ => true⟩ (.Name "power" pos) (aVar 4) := ae_var 4 rfl (Or.inl rfl) rfl rfl
  exact (ass_cons (as_asg v1 (ag_tup (ags_cons (ag_name 2 hN rfl (Or.inl rfl) (Or.inl rfl)) (ags_cons (ag_name 3 hN rfl (Or.inl rfl) (Or.inl rfl)) ags_nil (fun _ => rfl)) (fun _ => rfl)) (fun _ => rfl) (fun _ => rfl)) (fun _ => rfl) (fun _ _ => rfl) (fun _ => rfl))
    (ass_cons (as_asg ae_int (ag_name 4 hN rfl (Or.inl rfl) (Or.inl rfl)) (fun _ => rfl) (fun _ _ => rfl) (fun _ => rfl))
    (ass_cons (as_for (ai_rg1 rfl T.b_range (aa_cons v2 aa_nil) (fun _ => rfl)) (ag_name 5 hN rfl (Or.inl rfl) (Or.inl rfl)) (ass_cons (as_asg (ae_op (fun _ _ => op_mulJ) snd_mulJ v4 v0) (ag_name 4 hN rfl (Or.inl rfl) (Or.inl rfl)) (fun _ => rfl) (fun _ _ => rfl) (fun _ => rfl))
    (ass_one (as_if (AWs.pt (aw_and (at_cmp (fun _ _ => op_gtJ) snd_I v0 ae_int rfl) (aw_and1 (at_cmp (fun _ _ => op_gtJ) snd_I v4 v3 rfl)))) (ass_one (as_ret ae_bl)) ass_nil))) (fun _ _ => rfl))
    (ass_one (as_ret (ae_cmp (fun _ _ => op_leJ) snd_I v4 v3 rfl))))))

abbrev st_bounds_along : Stmt := top 48
abbrev ns_bounds_along : List Str := ["catalogue", "pattern", "order", "found", "k", "cover", "packing"]
theorem sc_bounds_along : FnScope ns_bounds_along ["catalogue", "pattern", "order"] (defScope st_bounds_along) := ⟨rfl, rfl, rfl, by decide +kernel, rfl, by decide +kernel, by decide +kernel⟩
def a_bounds_along (r_best_for : RS) (r_bound_for : RS) (r_check_fit : RS) (r_check_order : RS) : ASt :=
    (sSeq (sExp (aCall r_check_fit (aCons (aVar 0) (aCons (aVar 1) aNil))))
    (sSeq (sExp (aCall r_check_order (aCons (aVar 1) (aCons (aVar 2) aNil))))
    (sSeq (sAsg (aOwn (aLst aNil)) (gN 3))
    (sSeq (sFor (aRg2 (aCons (aC (.int 1)) (aCons (aOp fAdd (aCB fLen (aCons (aVar 2) aNil)) (aC (.int 1))) aNil))) (gN 4) (sSeq (sAsg (aCall r_best_for (aCons (aVar 1) (aCons (aSlT (aVar 2) aNoP (aSomeP (aVar 4))) aNil))) (gTu 2 (gsCons (gN 5) (gsCons (gN 6) gsNil))))
    (sApp (aVar 3) (aTup (aCons (aVar 5) (aCons (aVar 6) (aCons (aCall r_bound_for (aCons (aVar 0) (aCons (aVar 1) (aCons (aVar 5) aNil)))) aNil)))))))
    (sRet (aCB fTup (aCons (aVar 3) aNil)))))))
theorem dv_bounds_along {r_best_for : RS} {r_bound_for : RS} {r_check_fit : RS} {r_check_order : RS} {P : Program} {w : World} {K : Frg} {mg : Str → Option Value} {base : Heap} {C : Addr} (T : Tx K mg C) (E : XK) (C_best_for : Cal P w K mg base 4 "best_for" r_best_for) (C_bound_for : Cal P w K mg base 3 "bound_for" r_bound_for) (C_check_fit : Cal P w K mg base 4 "check_fit" r_check_fit) (C_check_order : Cal P w K mg base 2 "check_order" r_check_order) :
    ASs ⟨P, w, K, mg, base, ns_bounds_along, defScope st_bounds_along, 4, E, fun _ => true⟩ (defBody st_bounds_along) (a_bounds_along r_best_for r_bound_for r_check_fit r_check_order) := by
  have hN : (ns_bounds_along : List Str).Nodup := sc_bounds_along.nd
  have v0 : ∀ {pos : Pos}, AE ⟨P, w, K, mg, base, ns_bounds_along, defScope st_bounds_along, 4, E, fun _ => true⟩ (.Name "catalogue" pos) (aVar 0) := ae_var 0 rfl (Or.inl rfl) rfl rfl
  have v1 : ∀ {pos : Pos}, AE ⟨P, w, K, mg, base, ns_bounds_along, defScope st_bounds_along, 4, E, fun _ => true⟩ (.Name "pattern" pos) (aVar 1) := ae_var 1 rfl (Or.inl rfl) rfl rfl
  have v2 : ∀ {pos : Pos}, AE ⟨P, w, K, mg, base, ns_bounds_along, defScope st_bounds_along, 4, E, fun _ => true⟩ (.Name "order" pos) (aVar 2) := ae_var 2 rfl (Or.inl rfl) rfl rfl
  have v3 : ∀ {pos : Pos}, AE ⟨P, w, K, mg, base, ns_bounds_along, defScope st_bounds_along, 4, E, fun _ => true⟩ (.Name "found" pos) (aVar 3) := ae_var 3 rfl (Or.inl rfl) rfl rfl
  have v4 : ∀ {pos : Pos}, AE ⟨P, w, K, mg, base, ns_bounds_along, defScope st_bounds_along, 4, E, fun _ => true⟩ (.Name "k" pos) (aVar 4) := ae_var 4 rfl (Or.inl rfl) rfl rfl
  have v5 : ∀ {pos : Pos}, AE ⟨P, w, K, mg, base, ns_bounds_along, defScope st_bounds_along, 4, E, fun _ => true⟩ (.Name "cover" pos) (aVar 5) := ae_var 5 rfl (Or.inl rfl) rfl rfl
  have v6 : ∀ {pos : Pos}, AE ⟨P, w, K, mg, base, ns_bounds_along, defScope st_bounds_along, 4, E, fun _ => true⟩ (.Name "packing" pos) (aVar 6) := ae_var 6 rfl (Or.inl rfl) rfl rfl
  exact (ass_cons (as_expr (ae_call C_check_fit (Nat.le_of_ble_eq_true rfl) rfl (aa_cons v0 (aa_cons v1 aa_nil)) rfl (fun _ => rfl) (fun _ => rfl)) (fun _ => rfl))
    (ass_cons (as_expr (ae_call C_check_order (Nat.le_of_ble_eq_true rfl) rfl (aa_cons v1 (aa_cons v2 aa_nil)) rfl (fun _ => rfl) (fun _ => rfl)) (fun _ => rfl))
    (ass_cons (as_asg (ae_own (al_lst aa_nil)) (ag_name 3 hN rfl (Or.inl rfl) (Or.inl rfl)) (fun _ => rfl) (fun _ _ => rfl) (fun _ => rfl))
    (ass_cons (as_for (ai_rg2 rfl T.b_range (aa_cons ae_int (aa_cons (ae_op (fun _ h => op_addJ h) snd_addJ (ae_callB (fun X h => by have := call_len (X := X); rw [h.K] at this; exact this) snd_len rfl T.b_len boot_len' (aa_cons v2 aa_nil) (by decide) rfl (fun _ => rfl) (fun _ => rfl)) ae_int) aa_nil)) (fun _ => rfl) (fun _ => rfl)) (ag_name 4 hN rfl (Or.inl rfl) (Or.inl rfl)) (ass_cons (as_asg (ae_call C_best_for (Nat.le_of_ble_eq_true rfl) rfl (aa_cons v1 (aa_cons (ae_slT v2 ao_none (ao_some v4)) aa_nil)) rfl (fun _ => rfl) (fun _ => rfl)) (ag_tup (ags_cons (ag_name 5 hN rfl (Or.inl rfl) (Or.inl rfl)) (ags_cons (ag_name 6 hN rfl (Or.inl rfl) (Or.inl rfl)) ags_nil (fun _ => rfl)) (fun _ => rfl)) (fun _ => rfl) (fun _ => rfl)) (fun _ => rfl) (fun _ _ => rfl) (fun _ => rfl))
    (ass_one (as_app v3 (ae_tup (aa_cons v5 (aa_cons v6 (aa_cons (ae_call C_bound_for (Nat.le_of_ble_eq_true rfl) rfl (aa_cons v0 (aa_cons v1 (aa_cons v5 aa_nil))) rfl (fun _ => rfl) (fun _ => rfl)) aa_nil)))) (fun _ => rfl) (fun X to t h po pa => pe_bm PySem.F.plainAttrs_list PySem.F.slot_list_append PySem.F.type_list_append mt_append po pa) (fun _ => rfl)))) (fun _ _ => rfl))
    (ass_one (as_ret (ae_callTy (fun X h => by have := call_tuple_of (X := X); rw [h.K] at this; exact this) snd_tuple rfl T.b_tuple boot_tuple' (aa_cons v3 aa_nil) (by decide) rfl (fun _ => rfl) (fun _ => rfl))))))))

abbrev st_L_begin : Stmt := top 50
abbrev ns_L_begin : List Str := ["_law_script", "_law_seed", "_law_cell"]
theorem sc_L_begin : FnScope ns_L_begin ["_law_script"] (defScope st_L_begin) := ⟨rfl, rfl, rfl, by decide +kernel, rfl, by decide +kernel, by decide +kernel⟩
def a_L_begin : ASt :=
    (sSeq (sAsg (aC (.int 1)) (gN 1))
    (sSeq (sFor (aSeqI (aVar 0)) (gN 2) (sAsg (aOp fMod (aOp fAdd (aOp fAdd (aOp fMul (aVar 1) (aC (.int 69621))) (aOp fMod (aCB fInt (aCons (aVar 2) aNil)) (aC (.int 2147483629)))) (aC (.int 7))) (aC (.int 2147483647))) (gN 1)))
    (sRet (aOwn (aLst (aCons (aFrz (aCBL fList (aCons (aVar 0) aNil))) (aCons (aC (.int 0)) (aCons (aC (.int 0)) (aCons (aVar 1) aNil)))))))))
theorem dv_L_begin {P : Program} {w : World} {K : Frg} {mg : Str → Option Value} {base : Heap} {C : Addr} (T : Tx K mg C) (E : XK) :
    ASs ⟨P, w, K, mg, base, ns_L_begin, defScope st_L_begin, 0, E, fun _ => true⟩ (defBody st_L_begin) (a_L_begin) := by
  have hN : (ns_L_begin : List Str).Nodup := sc_L_begin.nd
  have v0 : ∀ {pos : Pos}, AE ⟨P, w, K, mg, base, ns_L_begin, defScope st_L_begin, 0, E, fun _ => true⟩ (.Name "_law_script" pos) (aVar 0) := ae_var 0 rfl (Or.inl rfl) rfl rfl
  have v1 : ∀ {pos : Pos}, AE ⟨P, w, K, mg, base, ns_L_begin, defScope st_L_begin, 0, E, fun _ => true⟩ (.Name "_law_seed" pos) (aVar 1) := ae_var 1 rfl (Or.inl rfl) rfl rfl
  have v2 : ∀ {pos : Pos}, AE ⟨P, w, K, mg, base, ns_L_begin, defScope st_L_begin, 0, E, fun _ => true⟩ (.Name "_law_cell" pos) (aVar 2) := ae_var 2 rfl (Or.inl rfl) rfl rfl
  exact (ass_cons (as_asg ae_int (ag_name 1 hN rfl (Or.inl rfl) (Or.inl rfl)) (fun _ => rfl) (fun _ _ => rfl) (fun _ => rfl))
    (ass_cons (as_for (ai_seq v0) (ag_name 2 hN rfl (Or.inl rfl) (Or.inl rfl)) (ass_one (as_asg (ae_op (fun _ _ => op_mod) snd_mod (ae_op (fun _ h => op_addJ h) snd_addJ (ae_op (fun _ h => op_addJ h) snd_addJ (ae_op (fun _ _ => op_mulJ) snd_mulJ v1 ae_int) (ae_op (fun _ _ => op_mod) snd_mod (ae_callTy (fun _ _ => call_int1) snd_int rfl T.b_int boot_int' (aa_cons v2 aa_nil) (by decide) rfl (fun _ => rfl) (fun _ => rfl)) ae_int)) ae_int) ae_int) (ag_name 1 hN rfl (Or.inl rfl) (Or.inl rfl)) (fun _ => rfl) (fun _ _ => rfl) (fun _ => rfl))) (fun _ _ => rfl))
    (ass_one (as_ret (ae_own (al_lst (aa_cons (ae_frz (al_callTy (fun X h => by have := call_list_of (X := X); rw [h.K] at this; exact this) snd_list rfl T.b_list boot_list' (aa_cons v0 aa_nil) (by decide) rfl (fun _ => rfl) (fun _ => rfl))) (aa_cons ae_int (aa_cons ae_int (aa_cons v1 aa_nil))))))))))

abbrev st_L_take : Stmt := top 51
abbrev ns_L_take : List Str := ["_law_d", "_law_many", "_law_small", "_law_digit"]
theorem sc_L_take : FnScope ns_L_take ["_law_d", "_law_many"] (defScope st_L_take) := ⟨rfl, rfl, rfl, by decide +kernel, rfl, by decide +kernel, by decide +kernel⟩
def a_L_take : ASt :=
    (sSeq (sIf (aAnd (aTest (aOp (fEq false) (aIx (aVar 0) (aC (.int 2))) (aC (.int 0)))) (aTest (aOp fLt (aIx (aVar 0) (aC (.int 1))) (aCB fLen (aCons (aIx (aVar 0) (aC (.int 0))) aNil))))) (sSeq (sAsg (aCB fAbs (aCons (aCB fInt (aCons (aIx (aIx (aVar 0) (aC (.int 0))) (aIx (aVar 0) (aC (.int 1)))) aNil)) aNil)) (gIx (aVar 0) (aC (.int 2))))
    (sSeq (sAsg (aOp fAdd (aIx (aVar 0) (aC (.int 1))) (aC (.int 1))) (gIx (aVar 0) (aC (.int 1))))
    (sIf (aTest (aOp fLt (aIx (aVar 0) (aC (.int 2))) (aOp fPow (aC (.int 10)) (aC (.int 18))))) (sSeq (sAsg (aCB fInt (aCons (aIx (aVar 0) (aC (.int 2))) aNil)) (gN 2))
    (sSeq (sAsg (aC (.int 0)) (gIx (aVar 0) (aC (.int 2))))
    (sRet (aOp fMod (aVar 2) (aVar 1))))) sNext))) sNext)
    (sSeq (sIf (aTest (aOp (fI pGt) (aIx (aVar 0) (aC (.int 2))) (aC (.int 0)))) (sSeq (sAsg (aOp fMod (aCB fInt (aCons (aIx (aVar 0) (aC (.int 2))) aNil)) (aVar 1)) (gN 3))
    (sSeq (sAsg (aOp fDiv (aCB fInt (aCons (aIx (aVar 0) (aC (.int 2))) aNil)) (aVar 1)) (gIx (aVar 0) (aC (.int 2))))
    (sRet (aVar 3)))) sNext)
    (sSeq (sAsg (aOp fMod (aCB fInt (aCons (aOp fAdd (aOp fMul (aIx (aVar 0) (aC (.int 3))) (aC (.int 48271))) (aC (.int 11))) aNil)) (aC (.int 2147483647))) (gIx (aVar 0) (aC (.int 3))))
    (sRet (aOp fMod (aCB fInt (aCons (aOp fDiv (aIx (aVar 0) (aC (.int 3))) (aC (.int 3))) aNil)) (aVar 1))))))
theorem dv_L_take {P : Program} {w : World} {K : Frg} {mg : Str → Option Value} {base : Heap} {C : Addr} (T : Tx K mg C) (E : XK) :
    ASs ⟨P, w, K, mg, base, ns_L_take, defScope st_L_take, 0, E, fun _ => true⟩ (defBody st_L_take) (a_L_take) := by
  have hN : (ns_L_take : List Str).Nodup := sc_L_take.nd
  have v0 : ∀ {pos : Pos}, AE ⟨P, w, K, mg, base, ns_L_take, defScope st_L_take, 0, E, fun _ => true⟩ (.Name "_law_d" pos) (aVar 0) := ae_var 0 rfl (Or.inl rfl) rfl rfl
  have v1 : ∀ {pos : Pos}, AE ⟨P, w, K, mg, base, ns_L_take, defScope st_L_take, 0, E, fun _ => true⟩ (.Name "_law_many" pos) (aVar 1) := ae_var 1 rfl (Or.inl rfl) rfl rfl
  have v2 : ∀ {pos : Pos}, AE ⟨P, w, K, mg, base, ns_L_take, defScope st_L_take, 0, E, fun _ => true⟩ (.Name "_law_small" pos) (aVar 2) := ae_var 2 rfl (Or.inl rfl) rfl rfl
  have v3 : ∀ {pos : Pos}, AE ⟨P, w, K, mg, base, ns_L_take, defScope st_L_take, 0, E, fun _ => true⟩ (.Name "_law_digit" pos) (aVar 3) := ae_var 3 rfl (Or.inl rfl) rfl rfl
  exact (ass_cons (as_if (AWs.pt (aw_and (at_cmp (fun _ h => op_eqJ h) snd_eqJ (ae_ix v0 ae_int (fun _ _ => rfl)) ae_int rfl) (aw_and1 (at_cmp (fun _ h => op_ltJ h) snd_ltJ (ae_ix v0 ae_int (fun _ _ => rfl)) (ae_callB (fun X h => by have := call_len (X := X); rw [h.K] at this; exact this) snd_len rfl T.b_len boot_len' (aa_cons (ae_ix v0 ae_int (fun _ _ => rfl)) aa_nil) (by decide) rfl (fun _ => rfl) (fun _ => rfl)) rfl)))) (ass_cons (as_asg (ae_callB (fun _ _ => call_abs) snd_abs rfl T.b_abs boot_abs' (aa_cons (ae_callTy (fun _ _ => call_int1) snd_int rfl T.b_int boot_int' (aa_cons (ae_ix (ae_ix v0 ae_int (fun _ _ => rfl)) (ae_ix v0 ae_int (fun _ _ => rfl)) (fun _ _ => rfl)) aa_nil) (by decide) rfl (fun _ => rfl) (fun _ => rfl)) aa_nil) (by decide) rfl (fun _ => rfl) (fun _ => rfl)) (ag_ix (c := .Constant .none 0 ⟨0, 0, 0, 0⟩) v0 ae_int (fun _ _ => rfl)) (fun _ => rfl) (fun _ _ => rfl) (fun _ => rfl))
    (ass_cons (as_asg (ae_op (fun _ h => op_addJ h) snd_addJ (ae_ix v0 ae_int (fun _ _ => rfl)) ae_int) (ag_ix (c := .Constant .none 0 ⟨0, 0, 0, 0⟩) v0 ae_int (fun _ _ => rfl)) (fun _ => rfl) (fun _ _ => rfl) (fun _ => rfl))
    (ass_one (as_if (at_cmp (fun _ h => op_ltJ h) snd_ltJ (ae_ix v0 ae_int (fun _ _ => rfl)) (ae_op (fun _ _ => op_pow) snd_pow ae_int ae_int) rfl) (ass_cons (as_asg (ae_callTy (fun _ _ => call_int1) snd_int rfl T.b_int boot_int' (aa_cons (ae_ix v0 ae_int (fun _ _ => rfl)) aa_nil) (by decide) rfl (fun _ => rfl) (fun _ => rfl)) (ag_name 2 hN rfl (Or.inl rfl) (Or.inl rfl)) (fun _ => rfl) (fun _ _ => rfl) (fun _ => rfl))
    (ass_cons (as_asg ae_int (ag_ix (c := .Constant .none 0 ⟨0, 0, 0, 0⟩) v0 ae_int (fun _ _ => rfl)) (fun _ => rfl) (fun _ _ => rfl) (fun _ => rfl))
    (ass_one (as_ret (ae_op (fun _ _ => op_mod) snd_mod v2 v1))))) ass_nil)))) ass_nil)
    (ass_cons (as_if (at_cmp (fun _ _ => op_gtJ) snd_I (ae_ix v0 ae_int (fun _ _ => rfl)) ae_int rfl) (ass_cons (as_asg (ae_op (fun _ _ => op_mod) snd_mod (ae_callTy (fun _ _ => call_int1) snd_int rfl T.b_int boot_int' (aa_cons (ae_ix v0 ae_int (fun _ _ => rfl)) aa_nil) (by decide) rfl (fun _ => rfl) (fun _ => rfl)) v1) (ag_name 3 hN rfl (Or.inl rfl) (Or.inl rfl)) (fun _ => rfl) (fun _ _ => rfl) (fun _ => rfl))
    (ass_cons (as_asg (ae_op (fun _ _ => op_fdivW) snd_div (ae_callTy (fun _ _ => call_int1) snd_int rfl T.b_int boot_int' (aa_cons (ae_ix v0 ae_int (fun _ _ => rfl)) aa_nil) (by decide) rfl (fun _ => rfl) (fun _ => rfl)) v1) (ag_ix (c := .Constant .none 0 ⟨0, 0, 0, 0⟩) v0 ae_int (fun _ _ => rfl)) (fun _ => rfl) (fun _ _ => rfl) (fun _ => rfl))
    (ass_one (as_ret v3)))) ass_nil)
    (ass_cons (as_asg (ae_op (fun _ _ => op_mod) snd_mod (ae_callTy (fun _ _ => call_int1) snd_int rfl T.b_int boot_int' (aa_cons (ae_op (fun _ h => op_addJ h) snd_addJ (ae_op (fun _ _ => op_mulJ) snd_mulJ (ae_ix v0 ae_int (fun _ _ => rfl)) ae_int) ae_int) aa_nil) (by decide) rfl (fun _ => rfl) (fun _ => rfl)) ae_int) (ag_ix (c := .Constant .none 0 ⟨0, 0, 0, 0⟩) v0 ae_int (fun _ _ => rfl)) (fun _ => rfl) (fun _ _ => rfl) (fun _ => rfl))
    (ass_one (as_ret (ae_op (fun _ _ => op_mod) snd_mod (ae_callTy (fun _ _ => call_int1) snd_int rfl T.b_int boot_int' (aa_cons (ae_op (fun _ _ => op_fdivW) snd_div (ae_ix v0 ae_int (fun _ _ => rfl)) ae_int) aa_nil) (by decide) rfl (fun _ => rfl) (fun _ => rfl)) v1))))))

abbrev st_L_gcd : Stmt := top 52
abbrev ns_L_gcd : List Str := ["_law_a", "_law_b"]
theorem sc_L_gcd : FnScope ns_L_gcd ["_law_a", "_law_b"] (defScope st_L_gcd) := ⟨rfl, rfl, rfl, by decide +kernel, rfl, by decide +kernel, by decide +kernel⟩
def a_L_gcd : ASt :=
    (sSeq (sWhile (aTest (aOp (fEq true) (aVar 1) (aC (.int 0)))) (sPar 0 1 (aCons (aVar 1) (aCons (aOp fMod (aCB fInt (aCons (aVar 0) aNil)) (aVar 1)) aNil))))
    (sRet (aCB fAbs (aCons (aVar 0) aNil))))
theorem dv_L_gcd {P : Program} {w : World} {K : Frg} {mg : Str → Option Value} {base : Heap} {C : Addr} (T : Tx K mg C) (E : XK) :
    ASs ⟨P, w, K, mg, base, ns_L_gcd, defScope st_L_gcd, 0, E, fun _ => true⟩ (defBody st_L_gcd) (a_L_gcd) := by
  have hN : (ns_L_gcd : List Str).Nodup := sc_L_gcd.nd
  have v0 : ∀ {pos : Pos}, AE ⟨P, w, K, mg, base, ns_L_gcd, defScope st_L_gcd, 0, E, fun _ => true⟩ (.Name "_law_a" pos) (aVar 0) := ae_var 0 rfl (Or.inl rfl) rfl rfl
  have v1 : ∀ {pos : Pos}, AE ⟨P, w, K, mg, base, ns_L_gcd, defScope st_L_gcd, 0, E, fun _ => true⟩ (.Name "_law_b" pos) (aVar 1) := ae_var 1 rfl (Or.inl rfl) rfl rfl
  exact (ass_cons (as_while (at_cmp (fun _ h => op_neJ h) snd_eqJ v1 ae_int rfl) (ass_one (as_par (i := 0) (j := 1) (fun X t h ha => ps_par h.calm (by rw [h.N]; exact hN) (by rw [h.N]; rfl) (by rw [h.N]; rfl) (by decide) (by rw [h.sc]; rfl) (by rw [h.sc]; rfl) ha (par_sw h rfl rfl rfl rfl rfl rfl)) (aa_cons v1 (aa_cons (ae_op (fun _ _ => op_mod) snd_mod (ae_callTy (fun _ _ => call_int1) snd_int rfl T.b_int boot_int' (aa_cons v0 aa_nil) (by decide) rfl (fun _ => rfl) (fun _ => rfl)) v1) aa_nil)))))
    (ass_one (as_ret (ae_callB (fun _ _ => call_abs) snd_abs rfl T.b_abs boot_abs' (aa_cons v0 aa_nil) (by decide) rfl (fun _ => rfl) (fun _ => rfl)))))

abbrev st_L_f : Stmt := top 53
abbrev ns_L_f : List Str := ["_law_a", "_law_b", "_law_c"]
theorem sc_L_f : FnScope ns_L_f ["_law_a", "_law_b"] (defScope st_L_f) := ⟨rfl, rfl, rfl, by decide +kernel, rfl, by decide +kernel, by decide +kernel⟩
def a_L_f (r_L_gcd : RS) : ASt :=
    (sSeq (sIf (aTest (aOp fLt (aVar 1) (aC (.int 0)))) (sSeq (sAsg (aOp fSub (aC (.int 0)) (aVar 0)) (gN 0))
    (sAsg (aOp fSub (aC (.int 0)) (aVar 1)) (gN 1))) sNext)
    (sSeq (sAsg (aCall r_L_gcd (aCons (aCB fAbs (aCons (aVar 0) aNil)) (aCons (aVar 1) aNil))) (gN 2))
    (sRet (aTup (aCons (aOp fDiv (aVar 0) (aVar 2)) (aCons (aOp fDiv (aVar 1) (aVar 2)) aNil))))))
theorem dv_L_f {r_L_gcd : RS} {P : Program} {w : World} {K : Frg} {mg : Str → Option Value} {base : Heap} {C : Addr} (T : Tx K mg C) (E : XK) (C_L_gcd : Cal P w K mg base 1 "_law_gcd" r_L_gcd) :
    ASs ⟨P, w, K, mg, base, ns_L_f, defScope st_L_f, 1, E, fun _ => true⟩ (defBody st_L_f) (a_L_f r_L_gcd) := by
  have hN : (ns_L_f : List Str).Nodup := sc_L_f.nd
  have v0 : ∀ {pos : Pos}, AE ⟨P, w, K, mg, base, ns_L_f, defScope st_L_f, 1, E, fun _ => true⟩ (.Name "_law_a" pos) (aVar 0) := ae_var 0 rfl (Or.inl rfl) rfl rfl
  have v1 : ∀ {pos : Pos}, AE ⟨P, w, K, mg, base, ns_L_f, defScope st_L_f, 1, E, fun _ => true⟩ (.Name "_law_b" pos) (aVar 1) := ae_var 1 rfl (Or.inl rfl) rfl rfl
  have v2 : ∀ {pos : Pos}, AE ⟨P, w, K, mg, base, ns_L_f, defScope st_L_f, 1, E, fun _ => true⟩ (.Name "_law_c" pos) (aVar 2) := ae_var 2 rfl (Or.inl rfl) rfl rfl
  exact (ass_cons (as_if (at_cmp (fun _ h => op_ltJ h) snd_ltJ v1 ae_int rfl) (ass_cons (as_asg (ae_op (fun _ _ => op_sub) snd_sub ae_int v0) (ag_name 0 hN rfl (Or.inl rfl) (Or.inl rfl)) (fun _ => rfl) (fun _ _ => rfl) (fun _ => rfl))
    (ass_one (as_asg (ae_op (fun _ _ => op_sub) snd_sub ae_int v1) (ag_name 1 hN rfl (Or.inl rfl) (Or.inl rfl)) (fun _ => rfl) (fun _ _ => rfl) (fun _ => rfl)))) ass_nil)
    (ass_cons (as_asg (ae_call C_L_gcd (Nat.le_of_ble_eq_true rfl) rfl (aa_cons (ae_callB (fun _ _ => call_abs) snd_abs rfl T.b_abs boot_abs' (aa_cons v0 aa_nil) (by decide) rfl (fun _ => rfl) (fun _ => rfl)) (aa_cons v1 aa_nil)) rfl (fun _ => rfl) (fun _ => rfl)) (ag_name 2 hN rfl (Or.inl rfl) (Or.inl rfl)) (fun _ => rfl) (fun _ _ => rfl) (fun _ => rfl))
    (ass_one (as_ret (ae_tup (aa_cons (ae_op (fun _ _ => op_fdivW) snd_div v0 v2) (aa_cons (ae_op (fun _ _ => op_fdivW) snd_div v1 v2) aa_nil)))))))

abbrev st_L_plus : Stmt := top 54
abbrev ns_L_plus : List Str := ["_law_a", "_law_b"]
theorem sc_L_plus : FnScope ns_L_plus ["_law_a", "_law_b"] (defScope st_L_plus) := ⟨rfl, rfl, rfl, by decide +kernel, rfl, by decide +kernel, by decide +kernel⟩
def a_L_plus (r_L_f : RS) : ASt :=
    (sRet (aCall r_L_f (aCons (aOp fAdd (aOp fMul (aIx (aVar 0) (aC (.int 0))) (aIx (aVar 1) (aC (.int 1)))) (aOp fMul (aIx (aVar 1) (aC (.int 0))) (aIx (aVar 0) (aC (.int 1))))) (aCons (aOp fMul (aIx (aVar 0) (aC (.int 1))) (aIx (aVar 1) (aC (.int 1)))) aNil))))
theorem dv_L_plus {r_L_f : RS} {P : Program} {w : World} {K : Frg} {mg : Str → Option Value} {base : Heap} {C : Addr} (T : Tx K mg C) (E : XK) (C_L_f : Cal P w K mg base 2 "_law_f" r_L_f) :
    ASs ⟨P, w, K, mg, base, ns_L_plus, defScope st_L_plus, 2, E, fun _ => true⟩ (defBody st_L_plus) (a_L_plus r_L_f) := by
  have hN : (ns_L_plus : List Str).Nodup := sc_L_plus.nd
  have v0 : ∀ {pos : Pos}, AE ⟨P, w, K, mg, base, ns_L_plus, defScope st_L_plus, 2, E, fun _ => true⟩ (.Name "_law_a" pos) (aVar 0) := ae_var 0 rfl (Or.inl rfl) rfl rfl
  have v1 : ∀ {pos : Pos}, AE ⟨P, w, K, mg, base, ns_L_plus, defScope st_L_plus, 2, E, fun _ => true⟩ (.Name "_law_b" pos) (aVar 1) := ae_var 1 rfl (Or.inl rfl) rfl rfl
  exact (ass_one (as_ret (ae_call C_L_f (Nat.le_of_ble_eq_true rfl) rfl (aa_cons (ae_op (fun _ h => op_addJ h) snd_addJ (ae_op (fun _ _ => op_mulJ) snd_mulJ (ae_ix v0 ae_int (fun _ _ => rfl)) (ae_ix v1 ae_int (fun _ _ => rfl))) (ae_op (fun _ _ => op_mulJ) snd_mulJ (ae_ix v1 ae_int (fun _ _ => rfl)) (ae_ix v0 ae_int (fun _ _ => rfl)))) (aa_cons (ae_op (fun _ _ => op_mulJ) snd_mulJ (ae_ix v0 ae_int (fun _ _ => rfl)) (ae_ix v1 ae_int (fun _ _ => rfl))) aa_nil)) rfl (fun _ => rfl) (fun _ => rfl))))

abbrev st_L_less : Stmt := top 55
abbrev ns_L_less : List Str := ["_law_a", "_law_b"]
theorem sc_L_less : FnScope ns_L_less ["_law_a", "_law_b"] (defScope st_L_less) := ⟨rfl, rfl, rfl, by decide +kernel, rfl, by decide +kernel, by decide +kernel⟩
def a_L_less : ASt :=
    (sRet (aOp fLt (aOp fMul (aIx (aVar 0) (aC (.int 0))) (aIx (aVar 1) (aC (.int 1)))) (aOp fMul (aIx (aVar 1) (aC (.int 0))) (aIx (aVar 0) (aC (.int 1))))))
theorem dv_L_less {P : Program} {w : World} {K : Frg} {mg : Str → Option Value} {base : Heap} {C : Addr} (T : Tx K mg C) (E : XK) :
    ASs ⟨P, w, K, mg, base, ns_L_less, defScope st_L_less, 0, E, fun _ => true⟩ (defBody st_L_less) (a_L_less) := by
  have hN : (ns_L_less : List Str).Nodup := sc_L_less.nd
  have v0 : ∀ {pos : Pos}, AE ⟨P, w, K, mg, base, ns_L_less, defScope st_L_less, 0, E, fun _ => true⟩ (.Name "_law_a" pos) (aVar 0) := ae_var 0 rfl (Or.inl rfl) rfl rfl
  have v1 : ∀ {pos : Pos}, AE ⟨P, w, K, mg, base, ns_L_less, defScope st_L_less, 0, E, fun _ => true⟩ (.Name "_law_b" pos) (aVar 1) := ae_var 1 rfl (Or.inl rfl) rfl rfl
  exact (ass_one (as_ret (ae_cmp (fun _ h => op_ltJ h) snd_ltJ (ae_op (fun _ _ => op_mulJ) snd_mulJ (ae_ix v0 ae_int (fun _ _ => rfl)) (ae_ix v1 ae_int (fun _ _ => rfl))) (ae_op (fun _ _ => op_mulJ) snd_mulJ (ae_ix v1 ae_int (fun _ _ => rfl)) (ae_ix v0 ae_int (fun _ _ => rfl))) rfl)))

abbrev st_L_rows : Stmt := top 56
abbrev ns_L_rows : List Str := ["_law_d", "_law_columns", "_law_most", "_law_reach", "_law_rows_here", "_law_k", "_law_row", "_law_j"]
theorem sc_L_rows : FnScope ns_L_rows ["_law_d", "_law_columns", "_law_most", "_law_reach"] (defScope st_L_rows) := ⟨rfl, rfl, rfl, by decide +kernel, rfl, by decide +kernel, by decide +kernel⟩
def a_L_rows (r_L_take : RS) : ASt :=
    (sSeq (sAsg (aOwn (aLst aNil)) (gN 4))
    (sSeq (sFor (aRg1 (aCons (aCall r_L_take (aCons (aVar 0) (aCons (aOp fAdd (aVar 2) (aC (.int 1))) aNil))) aNil)) (gN 5) (sSeq (sAsg (aCB fTup (aCons (aFrz (aLc 7 [7] (aRg1 (aCons (aVar 1) aNil)) aYes (aCall r_L_take (aCons (aVar 0) (aCons (aVar 3) aNil))))) aNil)) (gN 6))
    (sIf (aTest (aOp (fIn true) (aVar 6) (aVar 4))) (sApp (aVar 4) (aVar 6)) sNext)))
    (sRet (aCB fTup (aCons (aFrz (aCBL fSort (aCons (aVar 4) aNil))) aNil)))))
theorem dv_L_rows {r_L_take : RS} {P : Program} {w : World} {K : Frg} {mg : Str → Option Value} {base : Heap} {C : Addr} (T : Tx K mg C) (E : XK) (C_L_take : Cal P w K mg base 1 "_law_take" r_L_take) :
    ASs ⟨P, w, K, mg, base, ns_L_rows, defScope st_L_rows, 1, E, fun _ => true⟩ (defBody st_L_rows) (a_L_rows r_L_take) := by
  have hN : (ns_L_rows : List Str).Nodup := sc_L_rows.nd
  have v0 : ∀ {pos : Pos}, AE ⟨P, w, K, mg, base, ns_L_rows, defScope st_L_rows, 1, E, fun _ => true⟩ (.Name "_law_d" pos) (aVar 0) := ae_var 0 rfl (Or.inr (Or.inl rfl)) rfl rfl
  have v1 : ∀ {pos : Pos}, AE ⟨P, w, K, mg, base, ns_L_rows, defScope st_L_rows, 1, E, fun _ => true⟩ (.Name "_law_columns" pos) (aVar 1) := ae_var 1 rfl (Or.inl rfl) rfl rfl
  have v2 : ∀ {pos : Pos}, AE ⟨P, w, K, mg, base, ns_L_rows, defScope st_L_rows, 1, E, fun _ => true⟩ (.Name "_law_most" pos) (aVar 2) := ae_var 2 rfl (Or.inl rfl) rfl rfl
  have v4 : ∀ {pos : Pos}, AE ⟨P, w, K, mg, base, ns_L_rows, defScope st_L_rows, 1, E, fun _ => true⟩ (.Name "_law_rows_here" pos) (aVar 4) := ae_var 4 rfl (Or.inl rfl) rfl rfl
  have v6 : ∀ {pos : Pos}, AE ⟨P, w, K, mg, base, ns_L_rows, defScope st_L_rows, 1, E, fun _ => true⟩ (.Name "_law_row" pos) (aVar 6) := ae_var 6 rfl (Or.inl rfl) rfl rfl
  exact (ass_cons (as_asg (ae_own (al_lst aa_nil)) (ag_name 4 hN rfl (Or.inl rfl) (Or.inl rfl)) (fun _ => rfl) (fun _ _ => rfl) (fun _ => rfl))
    (ass_cons (as_for (ai_rg1 rfl T.b_range (aa_cons (ae_call C_L_take (Nat.le_of_ble_eq_true rfl) rfl (aa_cons v0 (aa_cons (ae_op (fun _ h => op_addJ h) snd_addJ v2 ae_int) aa_nil)) rfl (fun _ => rfl) (fun _ => rfl)) aa_nil) (fun _ => rfl)) (ag_name 5 hN rfl (Or.inl rfl) (Or.inl rfl)) (ass_cons (as_asg (ae_callTy (fun X h => by have := call_tuple_of (X := X); rw [h.K] at this; exact this) snd_tuple rfl T.b_tuple boot_tuple' (aa_cons (ae_frz (al_lc (own := [("_law_j", 7)]) (j := 7) (ai_rg1 rfl T.b_range (aa_cons v1 aa_nil) (fun _ => rfl)) hN (by dsimp only [Fx.blk]; decide +kernel) rfl (Or.inl rfl) (Or.inr rfl) (by decide) ats_nil (ae_call C_L_take (Nat.le_of_ble_eq_true rfl) rfl (aa_cons (ae_var 0 rfl (Or.inr (Or.inl rfl)) rfl rfl) (aa_cons (ae_var 3 rfl (Or.inr (Or.inl rfl)) rfl rfl) aa_nil)) rfl (fun _ => rfl) (fun _ => rfl)) (fun _ _ => rfl))) aa_nil) (by decide) rfl (fun _ => rfl) (fun _ => rfl)) (ag_name 6 hN rfl (Or.inl rfl) (Or.inl rfl)) (fun _ => rfl) (fun _ _ => rfl) (fun _ => rfl))
    (ass_one (as_if (at_cmp (fun _ h => op_notInJ h) snd_inJ v6 v4 rfl) (ass_one (as_app v4 v6 (fun _ => rfl) (fun X to t h po pa => pe_bm PySem.F.plainAttrs_list PySem.F.slot_list_append PySem.F.type_list_append mt_append po pa) (fun _ => rfl))) ass_nil))) (fun _ _ => rfl))
    (ass_one (as_ret (ae_callTy (fun X h => by have := call_tuple_of (X := X); rw [h.K] at this; exact this) snd_tuple rfl T.b_tuple boot_tuple' (aa_cons (ae_frz (al_callB cr_sort_all snd_sortJ rfl T.b_sorted boot_sorted' (aa_cons v4 aa_nil) (by decide) rfl (fun _ => rfl) (fun _ => rfl))) aa_nil) (by decide) rfl (fun _ => rfl) (fun _ => rfl))))))

abbrev st_L_catalogue : Stmt := top 57
abbrev ns_L_catalogue : List Str := ["_law_d", "_law_many", "_law_most", "_law_reach", "_law_tables", "_law_k", "_law_columns"]
theorem sc_L_catalogue : FnScope ns_L_catalogue ["_law_d", "_law_many", "_law_most", "_law_reach"] (defScope st_L_catalogue) := ⟨rfl, rfl, rfl, by decide +kernel, rfl, by decide +kernel, by decide +kernel⟩
def a_L_catalogue (r_L_rows : RS) (r_L_take : RS) : ASt :=
    (sSeq (sAsg (aOwn (aLst aNil)) (gN 4))
    (sSeq (sFor (aRg1 (aCons (aOp fAdd (aC (.int 1)) (aCall r_L_take (aCons (aVar 0) (aCons (aVar 1) aNil)))) aNil)) (gN 5) (sSeq (sAsg (aIx (aTup (aCons (aC (.int 2)) (aCons (aC (.int 2)) (aCons (aC (.int 2)) (aCons (aC (.int 1)) (aCons (aC (.int 3)) (aCons (aC (.int 4)) aNil))))))) (aCall r_L_take (aCons (aVar 0) (aCons (aC (.int 6)) aNil)))) (gN 6))
    (sSeq (sIf (aAnd (aTest (aOp (fI pGt) (aVar 6) (aC (.int 2)))) (aTest (aOp (fI pGt) (aVar 2) (aC (.int 8))))) (sAsg (aC (.int 3)) (gN 6)) sNext)
    (sApp (aVar 4) (aTup (aCons (aOp fAdd (aIx (aC (.str "abcdefgh")) (aVar 5)) (aCB fStrI (aCons (aVar 6) aNil))) (aCons (aVar 6) (aCons (aCall r_L_rows (aCons (aVar 0) (aCons (aVar 6) (aCons (aVar 2) (aCons (aVar 3) aNil))))) aNil))))))))
    (sRet (aCB fTup (aCons (aVar 4) aNil)))))
theorem dv_L_catalogue {r_L_rows : RS} {r_L_take : RS} {P : Program} {w : World} {K : Frg} {mg : Str → Option Value} {base : Heap} {C : Addr} (T : Tx K mg C) (E : XK) (C_L_rows : Cal P w K mg base 2 "_law_rows" r_L_rows) (C_L_take : Cal P w K mg base 1 "_law_take" r_L_take) :
    ASs ⟨P, w, K, mg, base, ns_L_catalogue, defScope st_L_catalogue, 2, E, fun _ => true⟩ (defBody st_L_catalogue) (a_L_catalogue r_L_rows r_L_take) := by
  have hN : (ns_L_catalogue : List Str).Nodup := sc_L_catalogue.nd
  have v0 : ∀ {pos : Pos}, AE ⟨P, w, K, mg, base, ns_L_catalogue, defScope st_L_catalogue, 2, E, fun _ => true⟩ (.Name "_law_d" pos) (aVar 0) := ae_var 0 rfl (Or.inl rfl) rfl rfl
  have v1 : ∀ {pos : Pos}, AE ⟨P, w, K, mg, base, ns_L_catalogue, defScope st_L_catalogue, 2, E, fun _ => true⟩ (.Name "_law_many" pos) (aVar 1) := ae_var 1 rfl (Or.inl rfl) rfl rfl
  have v2 : ∀ {pos : Pos}, AE ⟨P, w, K, mg, base, ns_L_catalogue, defScope st_L_catalogue, 2, E, fun _ => true⟩ (.Name "_law_most" pos) (aVar 2) := ae_var 2 rfl (Or.inl rfl) rfl rfl
  have v3 : ∀ {pos : Pos}, AE ⟨P, w, K, mg, base, ns_L_catalogue, defScope st_L_catalogue, 2, E, fun _ => true⟩ (.Name "_law_reach" pos) (aVar 3) := ae_var 3 rfl (Or.inl rfl) rfl rfl
  have v4 : ∀ {pos : Pos}, AE ⟨P, w, K, mg, base, ns_L_catalogue, defScope st_L_catalogue, 2, E, fun _ => true⟩ (.Name "_law_tables" pos) (aVar 4) := ae_var 4 rfl (Or.inl rfl) rfl rfl
  have v5 : ∀ {pos : Pos}, AE ⟨P, w, K, mg, base, ns_L_catalogue, defScope st_L_catalogue, 2, E, fun _ => true⟩ (.Name "_law_k" pos) (aVar 5) := ae_var 5 rfl (Or.inl rfl) rfl rfl
  have v6 : ∀ {pos : Pos}, AE ⟨P, w, K, mg, base, ns_L_catalogue, defScope st_L_catalogue, 2, E, fun _ => true⟩ (.Name "_law_columns" pos) (aVar 6) := ae_var 6 rfl (Or.inl rfl) rfl rfl
  exact (ass_cons (as_asg (ae_own (al_lst aa_nil)) (ag_name 4 hN rfl (Or.inl rfl) (Or.inl rfl)) (fun _ => rfl) (fun _ _ => rfl) (fun _ => rfl))
    (ass_cons (as_for (ai_rg1 rfl T.b_range (aa_cons (ae_op (fun _ h => op_addJ h) snd_addJ ae_int (ae_call C_L_take (Nat.le_of_ble_eq_true rfl) rfl (aa_cons v0 (aa_cons v1 aa_nil)) rfl (fun _ => rfl) (fun _ => rfl))) aa_nil) (fun _ => rfl)) (ag_name 5 hN rfl (Or.inl rfl) (Or.inl rfl)) (ass_cons (as_asg (ae_ix (ae_tup (aa_cons ae_int (aa_cons ae_int (aa_cons ae_int (aa_cons ae_int (aa_cons ae_int (aa_cons ae_int aa_nil))))))) (ae_call C_L_take (Nat.le_of_ble_eq_true rfl) rfl (aa_cons v0 (aa_cons ae_int aa_nil)) rfl (fun _ => rfl) (fun _ => rfl)) (fun _ _ => rfl)) (ag_name 6 hN rfl (Or.inl rfl) (Or.inl rfl)) (fun _ => rfl) (fun _ _ => rfl) (fun _ => rfl))
    (ass_cons (as_if (AWs.pt (aw_and (at_cmp (fun _ _ => op_gtJ) snd_I v6 ae_int rfl) (aw_and1 (at_cmp (fun _ _ => op_gtJ) snd_I v2 ae_int rfl)))) (ass_one (as_asg ae_int (ag_name 6 hN rfl (Or.inl rfl) (Or.inl rfl)) (fun _ => rfl) (fun _ _ => rfl) (fun _ => rfl))) ass_nil)
    (ass_one (as_app v4 (ae_tup (aa_cons (ae_op (fun _ h => op_addJ h) snd_addJ (ae_ix ae_str v5 (fun _ _ => rfl)) (ae_callTy (fun _ _ => call_str_int) snd_str rfl T.b_str boot_str' (aa_cons v6 aa_nil) (by decide) rfl (fun _ => rfl) (fun _ => rfl))) (aa_cons v6 (aa_cons (ae_call C_L_rows (Nat.le_of_ble_eq_true rfl) rfl (aa_cons v0 (aa_cons v6 (aa_cons v2 (aa_cons v3 aa_nil)))) rfl (fun _ => rfl) (fun _ => rfl)) aa_nil)))) (fun _ => rfl) (fun X to t h po pa => pe_bm PySem.F.plainAttrs_list PySem.F.slot_list_append PySem.F.type_list_append mt_append po pa) (fun _ => rfl))))) (fun _ _ => rfl))
    (ass_one (as_ret (ae_callTy (fun X h => by have := call_tuple_of (X := X); rw [h.K] at this; exact this) snd_tuple rfl T.b_tuple boot_tuple' (aa_cons v4 aa_nil) (by decide) rfl (fun _ => rfl) (fun _ => rfl))))))

abbrev st_L_table : Stmt := top 58
abbrev ns_L_table : List Str := ["_law_catalogue_here", "_law_name", "_law_table_here"]
theorem sc_L_table : FnScope ns_L_table ["_law_catalogue_here", "_law_name"] (defScope st_L_table) := ⟨rfl, rfl, rfl, by decide +kernel, rfl, by decide +kernel, by decide +kernel⟩
def a_L_table : ASt :=
    (sSeq (sFor (aSeqI (aVar 0)) (gN 2) (sIf (aTest (aOp (fEq false) (aIx (aVar 2) (aC (.int 0))) (aVar 1))) (sRet (aVar 2)) sNext))
    (sRet (aC .none)))
theorem dv_L_table {P : Program} {w : World} {K : Frg} {mg : Str → Option Value} {base : Heap} {C : Addr} (T : Tx K mg C) (E : XK) :
    ASs ⟨P, w, K, mg, base, ns_L_table, defScope st_L_table, 0, E, fun _ => true⟩ (defBody st_L_table) (a_L_table) := by
  have hN : (ns_L_table : List Str).Nodup := sc_L_table.nd
  have v0 : ∀ {pos : Pos}, AE ⟨P, w, K, mg, base, ns_L_table, defScope st_L_table, 0, E, fun _ => true⟩ (.Name "_law_catalogue_here" pos) (aVar 0) := ae_var 0 rfl (Or.inl rfl) rfl rfl
  have v1 : ∀ {pos : Pos}, AE ⟨P, w, K, mg, base, ns_L_table, defScope st_L_table, 0, E, fun _ => true⟩ (.Name "_law_name" pos) (aVar 1) := ae_var 1 rfl (Or.inl rfl) rfl rfl
  have v2 : ∀ {pos : Pos}, AE ⟨P, w, K, mg, base, ns_L_table, defScope st_L_table, 0, E, fun _ => true⟩ (.Name "_law_table_here" pos) (aVar 2) := ae_var 2 rfl (Or.inl rfl) rfl rfl
  exact (ass_cons (as_for (ai_seq v0) (ag_name 2 hN rfl (Or.inl rfl) (Or.inl rfl)) (ass_one (as_if (at_cmp (fun _ h => op_eqJ h) snd_eqJ (ae_ix v2 ae_int (fun _ _ => rfl)) v1 rfl) (ass_one (as_ret v2)) ass_nil)) (fun _ _ => rfl))
    (ass_one (as_ret ae_non)))

abbrev st_L_variables : Stmt := top 59
abbrev ns_L_variables : List Str := ["_law_pattern_here", "_law_found", "_law_name", "_law_inner", "_law_k"]
theorem sc_L_variables : FnScope ns_L_variables ["_law_pattern_here"] (defScope st_L_variables) := ⟨rfl, rfl, rfl, by decide +kernel, rfl, by decide +kernel, by decide +kernel⟩
def a_L_variables : ASt :=
    (sSeq (sAsg (aFrz (aLst aNil)) (gN 1))
    (sSeq (sFor (aSeqI (aIx (aVar 0) (aC (.int 1)))) (gTu 2 (gsCons (gN 2) (gsCons (gN 3) gsNil))) (sAsg (aFrz (aCat (aVar 1) (aFrz (aLc 4 [4] (aRg1 (aCons (aCB fLen (aCons (aVar 3) aNil)) aNil)) (aAnd (aTest (aOp (fIn true) (aIx (aVar 3) (aVar 4)) (aVar 1))) (aTest (aOp (fIn true) (aIx (aVar 3) (aVar 4)) (aSlT (aVar 3) aNoP (aSomeP (aVar 4)))))) (aIx (aVar 3) (aVar 4)))))) (gN 1)))
    (sRet (aCB fTup (aCons (aVar 1) aNil)))))
theorem dv_L_variables {P : Program} {w : World} {K : Frg} {mg : Str → Option Value} {base : Heap} {C : Addr} (T : Tx K mg C) (E : XK) :
    ASs ⟨P, w, K, mg, base, ns_L_variables, defScope st_L_variables, 0, E, fun _ => true⟩ (defBody st_L_variables) (a_L_variables) := by
  have hN : (ns_L_variables : List Str).Nodup := sc_L_variables.nd
  have v0 : ∀ {pos : Pos}, AE ⟨P, w, K, mg, base, ns_L_variables, defScope st_L_variables, 0, E, fun _ => true⟩ (.Name "_law_pattern_here" pos) (aVar 0) := ae_var 0 rfl (Or.inl rfl) rfl rfl
  have v1 : ∀ {pos : Pos}, AE ⟨P, w, K, mg, base, ns_L_variables, defScope st_L_variables, 0, E, fun _ => true⟩ (.Name "_law_found" pos) (aVar 1) := ae_var 1 rfl (Or.inr (Or.inl rfl)) rfl rfl
  have v3 : ∀ {pos : Pos}, AE ⟨P, w, K, mg, base, ns_L_variables, defScope st_L_variables, 0, E, fun _ => true⟩ (.Name "_law_inner" pos) (aVar 3) := ae_var 3 rfl (Or.inr (Or.inl rfl)) rfl rfl
  exact (ass_cons (as_asg (ae_frz (al_lst aa_nil)) (ag_name 1 hN rfl (Or.inr rfl) (Or.inl rfl)) (fun _ => rfl) (fun _ _ => rfl) (fun _ => rfl))
    (ass_cons (as_for (ai_seq (ae_ix v0 ae_int (fun _ _ => rfl))) (ag_tup (ags_cons (ag_name 2 hN rfl (Or.inl rfl) (Or.inl rfl)) (ags_cons (ag_name 3 hN rfl (Or.inr rfl) (Or.inl rfl)) ags_nil (fun _ => rfl)) (fun _ => rfl)) (fun _ => rfl) (fun _ => rfl)) (ass_one (as_asg (ae_frz (al_cat v1 (ae_frz (al_lc (own := [("_law_k", 4)]) (j := 4) (ai_rg1 rfl T.b_range (aa_cons (ae_callB (fun X h => by have := call_len (X := X); rw [h.K] at this; exact this) snd_len rfl T.b_len boot_len' (aa_cons v3 aa_nil) (by decide) rfl (fun _ => rfl) (fun _ => rfl)) aa_nil) (fun _ => rfl)) hN (by dsimp only [Fx.blk]; decide +kernel) rfl (Or.inl rfl) (Or.inr rfl) (by decide) (ats_one (AWs.pt (aw_and (at_cmp (fun _ h => op_notInJ h) snd_inJ (ae_ix (ae_var 3 rfl (Or.inr (Or.inl rfl)) rfl rfl) (ae_var 4 rfl (Or.inl rfl) rfl rfl) (fun _ _ => rfl)) (ae_var 1 rfl (Or.inr (Or.inl rfl)) rfl rfl) rfl) (aw_and1 (at_cmp (fun _ h => op_notInJ h) snd_inJ (ae_ix (ae_var 3 rfl (Or.inr (Or.inl rfl)) rfl rfl) (ae_var 4 rfl (Or.inl rfl) rfl rfl) (fun _ _ => rfl)) (ae_slT (ae_var 3 rfl (Or.inr (Or.inl rfl)) rfl rfl) ao_none (ao_some (ae_var 4 rfl (Or.inl rfl) rfl rfl))) rfl))))) (ae_ix (ae_var 3 rfl (Or.inr (Or.inl rfl)) rfl rfl) (ae_var 4 rfl (Or.inl rfl) rfl rfl) (fun _ _ => rfl)) (fun _ _ => rfl))))) (ag_name 1 hN rfl (Or.inr rfl) (Or.inl rfl)) (fun _ => rfl) (fun _ _ => rfl) (fun _ => rfl))) (fun _ _ => rfl))
    (ass_one (as_ret (ae_callTy (fun X h => by have := call_tuple_of (X := X); rw [h.K] at this; exact this) snd_tuple rfl T.b_tuple boot_tuple' (aa_cons v1 aa_nil) (by decide) rfl (fun _ => rfl) (fun _ => rfl))))))

abbrev st_L_pattern : Stmt := top 60
abbrev ns_L_pattern : List Str := ["_law_d", "_law_catalogue_here", "_law_atoms", "_law_many", "_law_names", "_law_body", "_law_k", "_law_table_here", "_law_pattern_here", "_law_variables_here", "_law_head", "_law_one", "_law_j"]
theorem sc_L_pattern : FnScope ns_L_pattern ["_law_d", "_law_catalogue_here", "_law_atoms", "_law_many"] (defScope st_L_pattern) := ⟨rfl, rfl, rfl, by decide +kernel, rfl, by decide +kernel, by decide +kernel⟩
def a_L_pattern (r_L_take : RS) (r_L_variables : RS) : ASt :=
    (sSeq (sAsg (aFrz (aSlL (aFrz (aLst (aCons (aC (.str "x")) (aCons (aC (.str "y")) (aCons (aC (.str "z")) (aCons (aC (.str "u")) (aCons (aC (.str "v")) (aCons (aC (.str "w")) aNil)))))))) aNoP (aSomeP (aOp fAdd (aC (.int 1)) (aCall r_L_take (aCons (aVar 0) (aCons (aVar 3) aNil))))))) (gN 4))
    (sSeq (sAsg (aOwn (aLst aNil)) (gN 5))
    (sSeq (sFor (aRg1 (aCons (aOp fAdd (aC (.int 1)) (aCall r_L_take (aCons (aVar 0) (aCons (aVar 2) aNil)))) aNil)) (gN 6) (sSeq (sAsg (aIx (aVar 1) (aCall r_L_take (aCons (aVar 0) (aCons (aCB fLen (aCons (aVar 1) aNil)) aNil)))) (gN 7))
    (sApp (aVar 5) (aTup (aCons (aIx (aVar 7) (aC (.int 0))) (aCons (aCB fTup (aCons (aFrz (aLc 12 [12] (aRg1 (aCons (aIx (aVar 7) (aC (.int 1))) aNil)) aYes (aIx (aVar 4) (aCall r_L_take (aCons (aVar 0) (aCons (aCB fLen (aCons (aVar 4) aNil)) aNil)))))) aNil)) aNil))))))
    (sSeq (sAsg (aTup (aCons (aTup aNil) (aCons (aCB fTup (aCons (aVar 5) aNil)) aNil))) (gN 8))
    (sSeq (sAsg (aCall r_L_variables (aCons (aVar 8) aNil)) (gN 9))
    (sSeq (sAsg (aOwn (aLst aNil)) (gN 10))
    (sSeq (sFor (aRg1 (aCons (aCB fLen (aCons (aVar 9) aNil)) aNil)) (gN 6) (sSeq (sAsg (aIx (aVar 9) (aCall r_L_take (aCons (aVar 0) (aCons (aCB fLen (aCons (aVar 9) aNil)) aNil)))) (gN 11))
    (sIf (aAnd (aTest (aOp (fIn true) (aVar 11) (aVar 10))) (aTest (aOp (fI pGt) (aCall r_L_take (aCons (aVar 0) (aCons (aC (.int 3)) aNil))) (aC (.int 0))))) (sApp (aVar 10) (aVar 11)) sNext)))
    (sRet (aTup (aCons (aCB fTup (aCons (aVar 10) aNil)) (aCons (aCB fTup (aCons (aVar 5) aNil)) aNil)))))))))))
theorem dv_L_pattern {r_L_take : RS} {r_L_variables : RS} {P : Program} {w : World} {K : Frg} {mg : Str → Option Value} {base : Heap} {C : Addr} (T : Tx K mg C) (E : XK) (C_L_take : Cal P w K mg base 1 "_law_take" r_L_take) (C_L_variables : Cal P w K mg base 1 "_law_variables" r_L_variables) :
    ASs ⟨P, w, K, mg, base, ns_L_pattern, defScope st_L_pattern, 1, E, fun _ => true⟩ (defBody st_L_pattern) (a_L_pattern r_L_take r_L_variables) := by
  have hN : (ns_L_pattern : List Str).Nodup := sc_L_pattern.nd
  have v0 : ∀ {pos : Pos}, AE ⟨P, w, K, mg, base, ns_L_pattern, defScope st_L_pattern, 1, E, fun _ => true⟩ (.Name "_law_d" pos) (aVar 0) := ae_var 0 rfl (Or.inr (Or.inl rfl)) rfl rfl
  have v1 : ∀ {pos : Pos}, AE ⟨P, w, K, mg, base, ns_L_pattern, defScope st_L_pattern, 1, E, fun _ => true⟩ (.Name "_law_catalogue_here" pos) (aVar 1) := ae_var 1 rfl (Or.inl rfl) rfl rfl
  have v2 : ∀ {pos : Pos}, AE ⟨P, w, K, mg, base, ns_L_pattern, defScope st_L_pattern, 1, E, fun _ => true⟩ (.Name "_law_atoms" pos) (aVar 2) := ae_var 2 rfl (Or.inl rfl) rfl rfl
  have v3 : ∀ {pos : Pos}, AE ⟨P, w, K, mg, base, ns_L_pattern, defScope st_L_pattern, 1, E, fun _ => true⟩ (.Name "_law_many" pos) (aVar 3) := ae_var 3 rfl (Or.inl rfl) rfl rfl
  have v5 : ∀ {pos : Pos}, AE ⟨P, w, K, mg, base, ns_L_pattern, defScope st_L_pattern, 1, E, fun _ => true⟩ (.Name "_law_body" pos) (aVar 5) := ae_var 5 rfl (Or.inl rfl) rfl rfl
  have v7 : ∀ {pos : Pos}, AE ⟨P, w, K, mg, base, ns_L_pattern, defScope st_L_pattern, 1, E, fun _ => true⟩ (.Name "_law_table_here" pos) (aVar 7) := ae_var 7 rfl (Or.inl rfl) rfl rfl
  have v8 : ∀ {pos : Pos}, AE ⟨P, w, K, mg, base, ns_L_pattern, defScope st_L_pattern, 1, E, fun _ => true⟩ (.Name "_law_pattern_here" pos) (aVar 8) := ae_var 8 rfl (Or.inl rfl) rfl rfl
  have v9 : ∀ {pos : Pos}, AE ⟨P, w, K, mg, base, ns_L_pattern, defScope st_L_pattern, 1, E, fun _ => true⟩ (.Name "_law_variables_here" pos) (aVar 9) := ae_var 9 rfl (Or.inl rfl) rfl rfl
  have v10 : ∀ {pos : Pos}, AE ⟨P, w, K, mg, base, ns_L_pattern, defScope st_L_pattern, 1, E, fun _ => true⟩ (.Name "_law_head" pos) (aVar 10) := ae_var 10 rfl (Or.inl rfl) rfl rfl
  have v11 : ∀ {pos : Pos}, AE ⟨P, w, K, mg, base, ns_L_pattern, defScope st_L_pattern, 1, E, fun _ => true⟩ (.Name "_law_one" pos) (aVar 11) := ae_var 11 rfl (Or.inl rfl) rfl rfl
  exact (ass_cons (as_asg (ae_frz (al_sl (ae_frz (al_lst (aa_cons ae_str (aa_cons ae_str (aa_cons ae_str (aa_cons ae_str (aa_cons ae_str (aa_cons ae_str aa_nil)))))))) ao_none (ao_some (ae_op (fun _ h => op_addJ h) snd_addJ ae_int (ae_call C_L_take (Nat.le_of_ble_eq_true rfl) rfl (aa_cons v0 (aa_cons v3 aa_nil)) rfl (fun _ => rfl) (fun _ => rfl)))))) (ag_name 4 hN rfl (Or.inr rfl) (Or.inl rfl)) (fun _ => rfl) (fun _ _ => rfl) (fun _ => rfl))
    (ass_cons (as_asg (ae_own (al_lst aa_nil)) (ag_name 5 hN rfl (Or.inl rfl) (Or.inl rfl)) (fun _ => rfl) (fun _ _ => rfl) (fun _ => rfl))
    (ass_cons (as_for (ai_rg1 rfl T.b_range (aa_cons (ae_op (fun _ h => op_addJ h) snd_addJ ae_int (ae_call C_L_take (Nat.le_of_ble_eq_true rfl) rfl (aa_cons v0 (aa_cons v2 aa_nil)) rfl (fun _ => rfl) (fun _ => rfl))) aa_nil) (fun _ => rfl)) (ag_name 6 hN rfl (Or.inl rfl) (Or.inl rfl)) (ass_cons (as_asg (ae_ix v1 (ae_call C_L_take (Nat.le_of_ble_eq_true rfl) rfl (aa_cons v0 (aa_cons (ae_callB (fun X h => by have := call_len (X := X); rw [h.K] at this; exact this) snd_len rfl T.b_len boot_len' (aa_cons v1 aa_nil) (by decide) rfl (fun _ => rfl) (fun _ => rfl)) aa_nil)) rfl (fun _ => rfl) (fun _ => rfl)) (fun _ _ => rfl)) (ag_name 7 hN rfl (Or.inl rfl) (Or.inl rfl)) (fun _ => rfl) (fun _ _ => rfl) (fun _ => rfl))
    (ass_one (as_app v5 (ae_tup (aa_cons (ae_ix v7 ae_int (fun _ _ => rfl)) (aa_cons (ae_callTy (fun X h => by have := call_tuple_of (X := X); rw [h.K] at this; exact this) snd_tuple rfl T.b_tuple boot_tuple' (aa_cons (ae_frz (al_lc (own := [("_law_j", 12)]) (j := 12) (ai_rg1 rfl T.b_range (aa_cons (ae_ix v7 ae_int (fun _ _ => rfl)) aa_nil) (fun _ => rfl)) hN (by dsimp only [Fx.blk]; decide +kernel) rfl (Or.inl rfl) (Or.inr rfl) (by decide) ats_nil (ae_ix (ae_var 4 rfl (Or.inr (Or.inl rfl)) rfl rfl) (ae_call C_L_take (Nat.le_of_ble_eq_true rfl) rfl (aa_cons (ae_var 0 rfl (Or.inr (Or.inl rfl)) rfl rfl) (aa_cons (ae_callB (fun X h => by have := call_len (X := X); rw [h.K] at this; exact this) snd_len rfl T.b_len boot_len' (aa_cons (ae_var 4 rfl (Or.inr (Or.inl rfl)) rfl rfl) aa_nil) (by decide) rfl (fun _ => rfl) (fun _ => rfl)) aa_nil)) rfl (fun _ => rfl) (fun _ => rfl)) (fun _ _ => rfl)) (fun _ _ => rfl))) aa_nil) (by decide) rfl (fun _ => rfl) (fun _ => rfl)) aa_nil))) (fun _ => rfl) (fun X to t h po pa => pe_bm PySem.F.plainAttrs_list PySem.F.slot_list_append PySem.F.type_list_append mt_append po pa) (fun _ => rfl)))) (fun _ _ => rfl))
    (ass_cons (as_asg (ae_tup (aa_cons (ae_tup aa_nil) (aa_cons (ae_callTy (fun X h => by have := call_tuple_of (X := X); rw [h.K] at this; exact this) snd_tuple rfl T.b_tuple boot_tuple' (aa_cons v5 aa_nil) (by decide) rfl (fun _ => rfl) (fun _ => rfl)) aa_nil))) (ag_name 8 hN rfl (Or.inl rfl) (Or.inl rfl)) (fun _ => rfl) (fun _ _ => rfl) (fun _ => rfl))
    (ass_cons (as_asg (ae_call C_L_variables (Nat.le_of_ble_eq_true rfl) rfl (aa_cons v8 aa_nil) rfl (fun _ => rfl) (fun _ => rfl)) (ag_name 9 hN rfl (Or.inl rfl) (Or.inl rfl)) (fun _ => rfl) (fun _ _ => rfl) (fun _ => rfl))
    (ass_cons (as_asg (ae_own (al_lst aa_nil)) (ag_name 10 hN rfl (Or.inl rfl) (Or.inl rfl)) (fun _ => rfl) (fun _ _ => rfl) (fun _ => rfl))
    (ass_cons (as_for (ai_rg1 rfl T.b_range (aa_cons (ae_callB (fun X h => by have := call_len (X := X); rw [h.K] at this; exact this) snd_len rfl T.b_len boot_len' (aa_cons v9 aa_nil) (by decide) rfl (fun _ => rfl) (fun _ => rfl)) aa_nil) (fun _ => rfl)) (ag_name 6 hN rfl (Or.inl rfl) (Or.inl rfl)) (ass_cons (as_asg (ae_ix v9 (ae_call C_L_take (Nat.le_of_ble_eq_true rfl) rfl (aa_cons v0 (aa_cons (ae_callB (fun X h => by have := call_len (X := X); rw [h.K] at this; exact this) snd_len rfl T.b_len boot_len' (aa_cons v9 aa_nil) (by decide) rfl (fun _ => rfl) (fun _ => rfl)) aa_nil)) rfl (fun _ => rfl) (fun _ => rfl)) (fun _ _ => rfl)) (ag_name 11 hN rfl (Or.inl rfl) (Or.inl rfl)) (fun _ => rfl) (fun _ _ => rfl) (fun _ => rfl))
    (ass_one (as_if (AWs.pt (aw_and (at_cmp (fun _ h => op_notInJ h) snd_inJ v11 v10 rfl) (aw_and1 (at_cmp (fun _ _ => op_gtJ) snd_I (ae_call C_L_take (Nat.le_of_ble_eq_true rfl) rfl (aa_cons v0 (aa_cons ae_int aa_nil)) rfl (fun _ => rfl) (fun _ => rfl)) ae_int rfl)))) (ass_one (as_app v10 v11 (fun _ => rfl) (fun X to t h po pa => pe_bm PySem.F.plainAttrs_list PySem.F.slot_list_append PySem.F.type_list_append mt_append po pa) (fun _ => rfl))) ass_nil))) (fun _ _ => rfl))
    (ass_one (as_ret (ae_tup (aa_cons (ae_callTy (fun X h => by have := call_tuple_of (X := X); rw [h.K] at this; exact this) snd_tuple rfl T.b_tuple boot_tuple' (aa_cons v10 aa_nil) (by decide) rfl (fun _ => rfl) (fun _ => rfl)) (aa_cons (ae_callTy (fun X h => by have := call_tuple_of (X := X); rw [h.K] at this; exact this) snd_tuple rfl T.b_tuple boot_tuple' (aa_cons v5 aa_nil) (by decide) rfl (fun _ => rfl) (fun _ => rfl)) aa_nil))))))))))))

abbrev st_L_shuffled : Stmt := top 61
abbrev ns_L_shuffled : List Str := ["_law_d", "_law_items", "_law_left", "_law_found", "_law_k", "_law_at"]
theorem sc_L_shuffled : FnScope ns_L_shuffled ["_law_d", "_law_items"] (defScope st_L_shuffled) := ⟨rfl, rfl, rfl, by decide +kernel, rfl, by decide +kernel, by decide +kernel⟩
def a_L_shuffled (r_L_take : RS) : ASt :=
    (sSeq (sAsg (aFrz (aCBL fList (aCons (aVar 1) aNil))) (gN 2))
    (sSeq (sAsg (aOwn (aLst aNil)) (gN 3))
    (sSeq (sFor (aRg1 (aCons (aCB fLen (aCons (aVar 1) aNil)) aNil)) (gN 4) (sSeq (sAsg (aCall r_L_take (aCons (aVar 0) (aCons (aCB fLen (aCons (aVar 2) aNil)) aNil))) (gN 5))
    (sSeq (sApp (aVar 3) (aIx (aVar 2) (aVar 5)))
    (sAsg (aFrz (aCat (aFrz (aSlL (aVar 2) aNoP (aSomeP (aVar 5)))) (aFrz (aSlL (aVar 2) (aSomeP (aOp fAdd (aVar 5) (aC (.int 1)))) aNoP)))) (gN 2)))))
    (sRet (aCB fTup (aCons (aVar 3) aNil))))))
theorem dv_L_shuffled {r_L_take : RS} {P : Program} {w : World} {K : Frg} {mg : Str → Option Value} {base : Heap} {C : Addr} (T : Tx K mg C) (E : XK) (C_L_take : Cal P w K mg base 1 "_law_take" r_L_take) :
    ASs ⟨P, w, K, mg, base, ns_L_shuffled, defScope st_L_shuffled, 1, E, fun _ => true⟩ (defBody st_L_shuffled) (a_L_shuffled r_L_take) := by
  have hN : (ns_L_shuffled : List Str).Nodup := sc_L_shuffled.nd
  have v0 : ∀ {pos : Pos}, AE ⟨P, w, K, mg, base, ns_L_shuffled, defScope st_L_shuffled, 1, E, fun _ => true⟩ (.Name "_law_d" pos) (aVar 0) := ae_var 0 rfl (Or.inl rfl) rfl rfl
  have v1 : ∀ {pos : Pos}, AE ⟨P, w, K, mg, base, ns_L_shuffled, defScope st_L_shuffled, 1, E, fun _ => true⟩ (.Name "_law_items" pos) (aVar 1) := ae_var 1 rfl (Or.inl rfl) rfl rfl
  have v2 : ∀ {pos : Pos}, AE ⟨P, w, K, mg, base, ns_L_shuffled, defScope st_L_shuffled, 1, E, fun _ => true⟩ (.Name "_law_left" pos) (aVar 2) := ae_var 2 rfl (Or.inl rfl) rfl rfl
  have v3 : ∀ {pos : Pos}, AE ⟨P, w, K, mg, base, ns_L_shuffled, defScope st_L_shuffled, 1, E, fun _ => true⟩ (.Name "_law_found" pos) (aVar 3) := ae_var 3 rfl (Or.inl rfl) rfl rfl
  have v5 : ∀ {pos : Pos}, AE ⟨P, w, K, mg, base, ns_L_shuffled, defScope st_L_shuffled, 1, E, fun _ => true⟩ (.Name "_law_at" pos) (aVar 5) := ae_var 5 rfl (Or.inl rfl) rfl rfl
  exact (ass_cons (as_asg (ae_frz (al_callTy (fun X h => by have := call_list_of (X := X); rw [h.K] at this; exact this) snd_list rfl T.b_list boot_list' (aa_cons v1 aa_nil) (by decide) rfl (fun _ => rfl) (fun _ => rfl))) (ag_name 2 hN rfl (Or.inl rfl) (Or.inl rfl)) (fun _ => rfl) (fun _ _ => rfl) (fun _ => rfl))
    (ass_cons (as_asg (ae_own (al_lst aa_nil)) (ag_name 3 hN rfl (Or.inl rfl) (Or.inl rfl)) (fun _ => rfl) (fun _ _ => rfl) (fun _ => rfl))
    (ass_cons (as_for (ai_rg1 rfl T.b_range (aa_cons (ae_callB (fun X h => by have := call_len (X := X); rw [h.K] at this; exact this) snd_len rfl T.b_len boot_len' (aa_cons v1 aa_nil) (by decide) rfl (fun _ => rfl) (fun _ => rfl)) aa_nil) (fun _ => rfl)) (ag_name 4 hN rfl (Or.inl rfl) (Or.inl rfl)) (ass_cons (as_asg (ae_call C_L_take (Nat.le_of_ble_eq_true rfl) rfl (aa_cons v0 (aa_cons (ae_callB (fun X h => by have := call_len (X := X); rw [h.K] at this; exact this) snd_len rfl T.b_len boot_len' (aa_cons v2 aa_nil) (by decide) rfl (fun _ => rfl) (fun _ => rfl)) aa_nil)) rfl (fun _ => rfl) (fun _ => rfl)) (ag_name 5 hN rfl (Or.inl rfl) (Or.inl rfl)) (fun _ => rfl) (fun _ _ => rfl) (fun _ => rfl))
    (ass_cons (as_app v3 (ae_ix v2 v5 (fun _ _ => rfl)) (fun _ => rfl) (fun X to t h po pa => pe_bm PySem.F.plainAttrs_list PySem.F.slot_list_append PySem.F.type_list_append mt_append po pa) (fun _ => rfl))
    (ass_one (as_asg (ae_frz (al_cat (ae_frz (al_sl v2 ao_none (ao_some v5))) (ae_frz (al_sl v2 (ao_some (ae_op (fun _ h => op_addJ h) snd_addJ v5 ae_int)) ao_none)))) (ag_name 2 hN rfl (Or.inl rfl) (Or.inl rfl)) (fun _ => rfl) (fun _ _ => rfl) (fun _ => rfl))))) (fun _ _ => rfl))
    (ass_one (as_ret (ae_callTy (fun X h => by have := call_tuple_of (X := X); rw [h.K] at this; exact this) snd_tuple rfl T.b_tuple boot_tuple' (aa_cons v3 aa_nil) (by decide) rfl (fun _ => rfl) (fun _ => rfl)))))))

abbrev st_L_sum : Stmt := top 62
abbrev ns_L_sum : List Str := ["_law_items", "_law_total", "_law_item"]
theorem sc_L_sum : FnScope ns_L_sum ["_law_items"] (defScope st_L_sum) := ⟨rfl, rfl, rfl, by decide +kernel, rfl, by decide +kernel, by decide +kernel⟩
def a_L_sum (r_L_plus : RS) : ASt :=
    (sSeq (sAsg (aTup (aCons (aC (.int 0)) (aCons (aC (.int 1)) aNil))) (gN 1))
    (sSeq (sFor (aSeqI (aVar 0)) (gN 2) (sAsg (aCall r_L_plus (aCons (aVar 1) (aCons (aVar 2) aNil))) (gN 1)))
    (sRet (aVar 1))))
theorem dv_L_sum {r_L_plus : RS} {P : Program} {w : World} {K : Frg} {mg : Str → Option Value} {base : Heap} {C : Addr} (T : Tx K mg C) (E : XK) (C_L_plus : Cal P w K mg base 3 "_law_plus" r_L_plus) :
    ASs ⟨P, w, K, mg, base, ns_L_sum, defScope st_L_sum, 3, E, fun _ => true⟩ (defBody st_L_sum) (a_L_sum r_L_plus) := by
  have hN : (ns_L_sum : List Str).Nodup := sc_L_sum.nd
  have v0 : ∀ {pos : Pos}, AE ⟨P, w, K, mg, base, ns_L_sum, defScope st_L_sum, 3, E, fun _ => true⟩ (.Name "_law_items" pos) (aVar 0) := ae_var 0 rfl (Or.inl rfl) rfl rfl
  have v1 : ∀ {pos : Pos}, AE ⟨P, w, K, mg, base, ns_L_sum, defScope st_L_sum, 3, E, fun _ => true⟩ (.Name "_law_total" pos) (aVar 1) := ae_var 1 rfl (Or.inl rfl) rfl rfl
  have v2 : ∀ {pos : Pos}, AE ⟨P, w, K, mg, base, ns_L_sum, defScope st_L_sum, 3, E, fun _ => true⟩ (.Name "_law_item" pos) (aVar 2) := ae_var 2 rfl (Or.inl rfl) rfl rfl
  exact (ass_cons (as_asg (ae_tup (aa_cons ae_int (aa_cons ae_int aa_nil))) (ag_name 1 hN rfl (Or.inl rfl) (Or.inl rfl)) (fun _ => rfl) (fun _ _ => rfl) (fun _ => rfl))
    (ass_cons (as_for (ai_seq v0) (ag_name 2 hN rfl (Or.inl rfl) (Or.inl rfl)) (ass_one (as_asg (ae_call C_L_plus (Nat.le_of_ble_eq_true rfl) rfl (aa_cons v1 (aa_cons v2 aa_nil)) rfl (fun _ => rfl) (fun _ => rfl)) (ag_name 1 hN rfl (Or.inl rfl) (Or.inl rfl)) (fun _ => rfl) (fun _ _ => rfl) (fun _ => rfl))) (fun _ _ => rfl))
    (ass_one (as_ret v1))))

abbrev st_L_covers : Stmt := top 63
abbrev ns_L_covers : List Str := ["_law_pattern_here", "_law_chosen", "_law_cover", "_law_atoms", "_law_variable", "_law_number", "_law_k"]
theorem sc_L_covers : FnScope ns_L_covers ["_law_pattern_here", "_law_chosen", "_law_cover"] (defScope st_L_covers) := ⟨rfl, rfl, rfl, by decide +kernel, rfl, by decide +kernel, by decide +kernel⟩
def a_L_covers (r_L_less : RS) (r_L_sum : RS) : ASt :=
    (sSeq (sAsg (aIx (aVar 0) (aC (.int 1))) (gN 3))
    (sSeq (sIf (aOr (aTest (aOp (fEq true) (aCB fLen (aCons (aVar 2) aNil)) (aCB fLen (aCons (aVar 3) aNil)))) (aTest (aCB fAny (aCons (aFrz (aLc 5 [5] (aSeqI (aVar 2)) aYes (aOp fLt (aIx (aVar 5) (aC (.int 0))) (aC (.int 0))))) aNil)))) (sRet (aC (.bool false))) sNext)
    (sSeq (sFor (aSeqI (aVar 1)) (gN 4) (sIf (aTest (aCall r_L_less (aCons (aCall r_L_sum (aCons (aFrz (aLc 6 [6] (aRg1 (aCons (aCB fLen (aCons (aVar 3) aNil)) aNil)) (aTest (aOp (fIn false) (aVar 4) (aIx (aIx (aVar 3) (aVar 6)) (aC (.int 1))))) (aIx (aVar 2) (aVar 6)))) aNil)) (aCons (aTup (aCons (aC (.int 1)) (aCons (aC (.int 1)) aNil))) aNil)))) (sRet (aC (.bool false))) sNext))
    (sRet (aC (.bool true))))))
theorem dv_L_covers {r_L_less : RS} {r_L_sum : RS} {P : Program} {w : World} {K : Frg} {mg : Str → Option Value} {base : Heap} {C : Addr} (T : Tx K mg C) (E : XK) (C_L_less : Cal P w K mg base 1 "_law_less" r_L_less) (C_L_sum : Cal P w K mg base 4 "_law_sum" r_L_sum) :
    ASs ⟨P, w, K, mg, base, ns_L_covers, defScope st_L_covers, 4, E, fun _ => true⟩ (defBody st_L_covers) (a_L_covers r_L_less r_L_sum) := by
  have hN : (ns_L_covers : List Str).Nodup := sc_L_covers.nd
  have v0 : ∀ {pos : Pos}, AE ⟨P, w, K, mg, base, ns_L_covers, defScope st_L_covers, 4, E, fun _ => true⟩ (.Name "_law_pattern_here" pos) (aVar 0) := ae_var 0 rfl (Or.inl rfl) rfl rfl
  have v1 : ∀ {pos : Pos}, AE ⟨P, w, K, mg, base, ns_L_covers, defScope st_L_covers, 4, E, fun _ => true⟩ (.Name "_law_chosen" pos) (aVar 1) := ae_var 1 rfl (Or.inl rfl) rfl rfl
  have v2 : ∀ {pos : Pos}, AE ⟨P, w, K, mg, base, ns_L_covers, defScope st_L_covers, 4, E, fun _ => true⟩ (.Name "_law_cover" pos) (aVar 2) := ae_var 2 rfl (Or.inr (Or.inl rfl)) rfl rfl
  have v3 : ∀ {pos : Pos}, AE ⟨P, w, K, mg, base, ns_L_covers, defScope st_L_covers, 4, E, fun _ => true⟩ (.Name "_law_atoms" pos) (aVar 3) := ae_var 3 rfl (Or.inr (Or.inl rfl)) rfl rfl
  exact (ass_cons (as_asg (ae_ix v0 ae_int (fun _ _ => rfl)) (ag_name 3 hN rfl (Or.inr rfl) (Or.inl rfl)) (fun _ => rfl) (fun _ _ => rfl) (fun _ => rfl))
    (ass_cons (as_if (AWs.pt (aw_or (at_cmp (fun _ h => op_neJ h) snd_eqJ (ae_callB (fun X h => by have := call_len (X := X); rw [h.K] at this; exact this) snd_len rfl T.b_len boot_len' (aa_cons v2 aa_nil) (by decide) rfl (fun _ => rfl) (fun _ => rfl)) (ae_callB (fun X h => by have := call_len (X := X); rw [h.K] at this; exact this) snd_len rfl T.b_len boot_len' (aa_cons v3 aa_nil) (by decide) rfl (fun _ => rfl) (fun _ => rfl)) rfl) (aw_or1 (at_val (ae_callB (cK fun _ h => cr_any h) snd_any rfl T.b_any boot_any' (aa_cons (ae_frz (al_lc (own := [("_law_number", 5)]) (j := 5) (ai_seq v2) hN (by dsimp only [Fx.blk]; decide +kernel) rfl (Or.inl rfl) (Or.inr rfl) (by decide) ats_nil (ae_cmp (fun _ h => op_ltJ h) snd_ltJ (ae_ix (ae_var 5 rfl (Or.inl rfl) rfl rfl) ae_int (fun _ _ => rfl)) ae_int rfl) (fun _ _ => rfl))) aa_nil) (by decide) rfl (fun _ => rfl) (fun _ => rfl)) (fun _ _ => rfl))))) (ass_one (as_ret ae_bl)) ass_nil)
    (ass_cons (as_for (ai_seq v1) (ag_name 4 hN rfl (Or.inr rfl) (Or.inl rfl)) (ass_one (as_if (at_val (ae_call C_L_less (Nat.le_of_ble_eq_true rfl) rfl (aa_cons (ae_call C_L_sum (Nat.le_of_ble_eq_true rfl) rfl (aa_cons (ae_frz (al_lc (own := [("_law_k", 6)]) (j := 6) (ai_rg1 rfl T.b_range (aa_cons (ae_callB (fun X h => by have := call_len (X := X); rw [h.K] at this; exact this) snd_len rfl T.b_len boot_len' (aa_cons v3 aa_nil) (by decide) rfl (fun _ => rfl) (fun _ => rfl)) aa_nil) (fun _ => rfl)) hN (by dsimp only [Fx.blk]; decide +kernel) rfl (Or.inl rfl) (Or.inr rfl) (by decide) (ats_one (at_cmp (fun _ h => op_inJ h) snd_inJ (ae_var 4 rfl (Or.inr (Or.inl rfl)) rfl rfl) (ae_ix (ae_ix (ae_var 3 rfl (Or.inr (Or.inl rfl)) rfl rfl) (ae_var 6 rfl (Or.inl rfl) rfl rfl) (fun _ _ => rfl)) ae_int (fun _ _ => rfl)) rfl)) (ae_ix (ae_var 2 rfl (Or.inr (Or.inl rfl)) rfl rfl) (ae_var 6 rfl (Or.inl rfl) rfl rfl) (fun _ _ => rfl)) (fun _ _ => rfl))) aa_nil) rfl (fun _ => rfl) (fun _ => rfl)) (aa_cons (ae_tup (aa_cons ae_int (aa_cons ae_int aa_nil))) aa_nil)) rfl (fun _ => rfl) (fun _ => rfl)) (fun _ _ => rfl)) (ass_one (as_ret ae_bl)) ass_nil)) (fun _ _ => rfl))
    (ass_one (as_ret ae_bl)))))

abbrev st_L_packs : Stmt := top 64
abbrev ns_L_packs : List Str := ["_law_pattern_here", "_law_chosen", "_law_packing", "_law_name", "_law_inner", "_law_number", "_law_k"]
theorem sc_L_packs : FnScope ns_L_packs ["_law_pattern_here", "_law_chosen", "_law_packing"] (defScope st_L_packs) := ⟨rfl, rfl, rfl, by decide +kernel, rfl, by decide +kernel, by decide +kernel⟩
def a_L_packs (r_L_less : RS) (r_L_sum : RS) : ASt :=
    (sSeq (sIf (aOr (aTest (aOp (fEq true) (aCB fLen (aCons (aVar 2) aNil)) (aCB fLen (aCons (aVar 1) aNil)))) (aTest (aCB fAny (aCons (aFrz (aLc 5 [5] (aSeqI (aVar 2)) aYes (aOp fLt (aIx (aVar 5) (aC (.int 0))) (aC (.int 0))))) aNil)))) (sRet (aC (.bool false))) sNext)
    (sSeq (sFor (aSeqI (aIx (aVar 0) (aC (.int 1)))) (gTu 2 (gsCons (gN 3) (gsCons (gN 4) gsNil))) (sIf (aTest (aCall r_L_less (aCons (aTup (aCons (aC (.int 1)) (aCons (aC (.int 1)) aNil))) (aCons (aCall r_L_sum (aCons (aFrz (aLc 6 [6] (aRg1 (aCons (aCB fLen (aCons (aVar 1) aNil)) aNil)) (aTest (aOp (fIn false) (aIx (aVar 1) (aVar 6)) (aVar 4))) (aIx (aVar 2) (aVar 6)))) aNil)) aNil)))) (sRet (aC (.bool false))) sNext))
    (sRet (aC (.bool true)))))
theorem dv_L_packs {r_L_less : RS} {r_L_sum : RS} {P : Program} {w : World} {K : Frg} {mg : Str → Option Value} {base : Heap} {C : Addr} (T : Tx K mg C) (E : XK) (C_L_less : Cal P w K mg base 1 "_law_less" r_L_less) (C_L_sum : Cal P w K mg base 4 "_law_sum" r_L_sum) :
    ASs ⟨P, w, K, mg, base, ns_L_packs, defScope st_L_packs, 4, E, fun _ => true⟩ (defBody st_L_packs) (a_L_packs r_L_less r_L_sum) := by
  have hN : (ns_L_packs : List Str).Nodup := sc_L_packs.nd
  have v0 : ∀ {pos : Pos}, AE ⟨P, w, K, mg, base, ns_L_packs, defScope st_L_packs, 4, E, fun _ => true⟩ (.Name "_law_pattern_here" pos) (aVar 0) := ae_var 0 rfl (Or.inl rfl) rfl rfl
  have v1 : ∀ {pos : Pos}, AE ⟨P, w, K, mg, base, ns_L_packs, defScope st_L_packs, 4, E, fun _ => true⟩ (.Name "_law_chosen" pos) (aVar 1) := ae_var 1 rfl (Or.inr (Or.inl rfl)) rfl rfl
  have v2 : ∀ {pos : Pos}, AE ⟨P, w, K, mg, base, ns_L_packs, defScope st_L_packs, 4, E, fun _ => true⟩ (.Name "_law_packing" pos) (aVar 2) := ae_var 2 rfl (Or.inr (Or.inl rfl)) rfl rfl
  exact (ass_cons (as_if (AWs.pt (aw_or (at_cmp (fun _ h => op_neJ h) snd_eqJ (ae_callB (fun X h => by have := call_len (X := X); rw [h.K] at this; exact this) snd_len rfl T.b_len boot_len' (aa_cons v2 aa_nil) (by decide) rfl (fun _ => rfl) (fun _ => rfl)) (ae_callB (fun X h => by have := call_len (X := X); rw [h.K] at this; exact this) snd_len rfl T.b_len boot_len' (aa_cons v1 aa_nil) (by decide) rfl (fun _ => rfl) (fun _ => rfl)) rfl) (aw_or1 (at_val (ae_callB (cK fun _ h => cr_any h) snd_any rfl T.b_any boot_any' (aa_cons (ae_frz (al_lc (own := [("_law_number", 5)]) (j := 5) (ai_seq v2) hN (by dsimp only [Fx.blk]; decide +kernel) rfl (Or.inl rfl) (Or.inr rfl) (by decide) ats_nil (ae_cmp (fun _ h => op_ltJ h) snd_ltJ (ae_ix (ae_var 5 rfl (Or.inl rfl) rfl rfl) ae_int (fun _ _ => rfl)) ae_int rfl) (fun _ _ => rfl))) aa_nil) (by decide) rfl (fun _ => rfl) (fun _ => rfl)) (fun _ _ => rfl))))) (ass_one (as_ret ae_bl)) ass_nil)
    (ass_cons (as_for (ai_seq (ae_ix v0 ae_int (fun _ _ => rfl))) (ag_tup (ags_cons (ag_name 3 hN rfl (Or.inl rfl) (Or.inl rfl)) (ags_cons (ag_name 4 hN rfl (Or.inr rfl) (Or.inl rfl)) ags_nil (fun _ => rfl)) (fun _ => rfl)) (fun _ => rfl) (fun _ => rfl)) (ass_one (as_if (at_val (ae_call C_L_less (Nat.le_of_ble_eq_true rfl) rfl (aa_cons (ae_tup (aa_cons ae_int (aa_cons ae_int aa_nil))) (aa_cons (ae_call C_L_sum (Nat.le_of_ble_eq_true rfl) rfl (aa_cons (ae_frz (al_lc (own := [("_law_k", 6)]) (j := 6) (ai_rg1 rfl T.b_range (aa_cons (ae_callB (fun X h => by have := call_len (X := X); rw [h.K] at this; exact this) snd_len rfl T.b_len boot_len' (aa_cons v1 aa_nil) (by decide) rfl (fun _ => rfl) (fun _ => rfl)) aa_nil) (fun _ => rfl)) hN (by dsimp only [Fx.blk]; decide +kernel) rfl (Or.inl rfl) (Or.inr rfl) (by decide) (ats_one (at_cmp (fun _ h => op_inJ h) snd_inJ (ae_ix (ae_var 1 rfl (Or.inr (Or.inl rfl)) rfl rfl) (ae_var 6 rfl (Or.inl rfl) rfl rfl) (fun _ _ => rfl)) (ae_var 4 rfl (Or.inr (Or.inl rfl)) rfl rfl) rfl)) (ae_ix (ae_var 2 rfl (Or.inr (Or.inl rfl)) rfl rfl) (ae_var 6 rfl (Or.inl rfl) rfl rfl) (fun _ _ => rfl)) (fun _ _ => rfl))) aa_nil) rfl (fun _ => rfl) (fun _ => rfl)) aa_nil)) rfl (fun _ => rfl) (fun _ => rfl)) (fun _ _ => rfl)) (ass_one (as_ret ae_bl)) ass_nil)) (fun _ _ => rfl))
    (ass_one (as_ret ae_bl))))

abbrev st_L_bound : Stmt := top 65
abbrev ns_L_bound : List Str := ["_law_catalogue_here", "_law_pattern_here", "_law_cover", "_law_q", "_law_number", "_law_product", "_law_k", "_law_many", "_law_j"]
theorem sc_L_bound : FnScope ns_L_bound ["_law_catalogue_here", "_law_pattern_here", "_law_cover"] (defScope st_L_bound) := ⟨rfl, rfl, rfl, by decide +kernel, rfl, by decide +kernel, by decide +kernel⟩
def a_L_bound (r_L_gcd : RS) (r_L_table : RS) : ASt :=
    (sSeq (sAsg (aC (.int 1)) (gN 3))
    (sSeq (sFor (aSeqI (aVar 2)) (gN 4) (sAsg (aOp fMul (aOp fDiv (aVar 3) (aCall r_L_gcd (aCons (aVar 3) (aCons (aIx (aVar 4) (aC (.int 1))) aNil)))) (aIx (aVar 4) (aC (.int 1)))) (gN 3)))
    (sSeq (sAsg (aC (.int 1)) (gN 5))
    (sSeq (sFor (aRg1 (aCons (aCB fLen (aCons (aVar 2) aNil)) aNil)) (gN 6) (sSeq (sAsg (aCB fLen (aCons (aIx (aCall r_L_table (aCons (aVar 0) (aCons (aIx (aIx (aIx (aVar 1) (aC (.int 1))) (aVar 6)) (aC (.int 0))) aNil))) (aC (.int 2))) aNil)) (gN 7))
    (sFor (aRg1 (aCons (aOp fMul (aOp fDiv (aVar 3) (aIx (aIx (aVar 2) (aVar 6)) (aC (.int 1)))) (aIx (aIx (aVar 2) (aVar 6)) (aC (.int 0)))) aNil)) (gN 8) (sAsg (aOp fMul (aVar 5) (aVar 7)) (gN 5)))))
    (sRet (aTup (aCons (aVar 3) (aCons (aVar 5) aNil))))))))
theorem dv_L_bound {r_L_gcd : RS} {r_L_table : RS} {P : Program} {w : World} {K : Frg} {mg : Str → Option Value} {base : Heap} {C : Addr} (T : Tx K mg C) (E : XK) (C_L_gcd : Cal P w K mg base 1 "_law_gcd" r_L_gcd) (C_L_table : Cal P w K mg base 1 "_law_table" r_L_table) :
    ASs ⟨P, w, K, mg, base, ns_L_bound, defScope st_L_bound, 1, E, fun _ => true⟩ (defBody st_L_bound) (a_L_bound r_L_gcd r_L_table) := by
  have hN : (ns_L_bound : List Str).Nodup := sc_L_bound.nd
  have v0 : ∀ {pos : Pos}, AE ⟨P, w, K, mg, base, ns_L_bound, defScope st_L_bound, 1, E, fun _ => true⟩ (.Name "_law_catalogue_here" pos) (aVar 0) := ae_var 0 rfl (Or.inl rfl) rfl rfl
  have v1 : ∀ {pos : Pos}, AE ⟨P, w, K, mg, base, ns_L_bound, defScope st_L_bound, 1, E, fun _ => true⟩ (.Name "_law_pattern_here" pos) (aVar 1) := ae_var 1 rfl (Or.inl rfl) rfl rfl
  have v2 : ∀ {pos : Pos}, AE ⟨P, w, K, mg, base, ns_L_bound, defScope st_L_bound, 1, E, fun _ => true⟩ (.Name "_law_cover" pos) (aVar 2) := ae_var 2 rfl (Or.inl rfl) rfl rfl
  have v3 : ∀ {pos : Pos}, AE ⟨P, w, K, mg, base, ns_L_bound, defScope st_L_bound, 1, E, fun _ => true⟩ (.Name "_law_q" pos) (aVar 3) := ae_var 3 rfl (Or.inl rfl) rfl rfl
  have v4 : ∀ {pos : Pos}, AE ⟨P, w, K, mg, base, ns_L_bound, defScope st_L_bound, 1, E, fun _ => true⟩ (.Name "_law_number" pos) (aVar 4) := ae_var 4 rfl (Or.inl rfl) rfl rfl
  have v5 : ∀ {pos : Pos}, AE ⟨P, w, K, mg, base, ns_L_bound, defScope st_L_bound, 1, E, fun _ => true⟩ (.Name "_law_product" pos) (aVar 5) := ae_var 5 rfl (Or.inl rfl) rfl rfl
  have v6 : ∀ {pos : Pos}, AE ⟨P, w, K, mg, base, ns_L_bound, defScope st_L_bound, 1, E, fun _ => true⟩ (.Name "_law_k" pos) (aVar 6) := ae_var 6 rfl (Or.inl rfl) rfl rfl
  have v7 : ∀ {pos : Pos}, AE ⟨P, w, K, mg, base, ns_L_bound, defScope st_L_bound, 1, E, fun _ => true⟩ (.Name "_law_many" pos) (aVar 7) := ae_var 7 rfl (Or.inl rfl) rfl rfl
  exact (ass_cons (as_asg ae_int (ag_name 3 hN rfl (Or.inl rfl) (Or.inl rfl)) (fun _ => rfl) (fun _ _ => rfl) (fun _ => rfl))
    (ass_cons (as_for (ai_seq v2) (ag_name 4 hN rfl (Or.inl rfl) (Or.inl rfl)) (ass_one (as_asg (ae_op (fun _ _ => op_mulJ) snd_mulJ (ae_op (fun _ _ => op_fdivW) snd_div v3 (ae_call C_L_gcd (Nat.le_of_ble_eq_true rfl) rfl (aa_cons v3 (aa_cons (ae_ix v4 ae_int (fun _ _ => rfl)) aa_nil)) rfl (fun _ => rfl) (fun _ => rfl))) (ae_ix v4 ae_int (fun _ _ => rfl))) (ag_name 3 hN rfl (Or.inl rfl) (Or.inl rfl)) (fun _ => rfl) (fun _ _ => rfl) (fun _ => rfl))) (fun _ _ => rfl))
    (ass_cons (as_asg ae_int (ag_name 5 hN rfl (Or.inl rfl) (Or.inl rfl)) (fun _ => rfl) (fun _ _ => rfl) (fun _ => rfl))
    (ass_cons (as_for (ai_rg1 rfl T.b_range (aa_cons (ae_callB (fun X h => by have := call_len (X := X); rw [h.K] at this; exact this) snd_len rfl T.b_len boot_len' (aa_cons v2 aa_nil) (by decide) rfl (fun _ => rfl) (fun _ => rfl)) aa_nil) (fun _ => rfl)) (ag_name 6 hN rfl (Or.inl rfl) (Or.inl rfl)) (ass_cons (as_asg (ae_callB (fun X h => by have := call_len (X := X); rw [h.K] at this; exact this) snd_len rfl T.b_len boot_len' (aa_cons (ae_ix (ae_call C_L_table (Nat.le_of_ble_eq_true rfl) rfl (aa_cons v0 (aa_cons (ae_ix (ae_ix (ae_ix v1 ae_int (fun _ _ => rfl)) v6 (fun _ _ => rfl)) ae_int (fun _ _ => rfl)) aa_nil)) rfl (fun _ => rfl) (fun _ => rfl)) ae_int (fun _ _ => rfl)) aa_nil) (by decide) rfl (fun _ => rfl) (fun _ => rfl)) (ag_name 7 hN rfl (Or.inl rfl) (Or.inl rfl)) (fun _ => rfl) (fun _ _ => rfl) (fun _ => rfl))
    (ass_one (as_for (ai_rg1 rfl T.b_range (aa_cons (ae_op (fun _ _ => op_mulJ) snd_mulJ (ae_op (fun _ _ => op_fdivW) snd_div v3 (ae_ix (ae_ix v2 v6 (fun _ _ => rfl)) ae_int (fun _ _ => rfl))) (ae_ix (ae_ix v2 v6 (fun _ _ => rfl)) ae_int (fun _ _ => rfl))) aa_nil) (fun _ => rfl)) (ag_name 8 hN rfl (Or.inl rfl) (Or.inl rfl)) (ass_one (as_asg (ae_op (fun _ _ => op_mulJ) snd_mulJ v5 v7) (ag_name 5 hN rfl (Or.inl rfl) (Or.inl rfl)) (fun _ => rfl) (fun _ _ => rfl) (fun _ => rfl))) (fun _ _ => rfl)))) (fun _ _ => rfl))
    (ass_one (as_ret (ae_tup (aa_cons v3 (aa_cons v5 aa_nil)))))))))

abbrev st_L_keeps : Stmt := top 66
abbrev ns_L_keeps : List Str := ["_law_number", "_law_bound_here", "_law_power", "_law_k"]
theorem sc_L_keeps : FnScope ns_L_keeps ["_law_number", "_law_bound_here"] (defScope st_L_keeps) := ⟨rfl, rfl, rfl, by decide +kernel, rfl, by decide +kernel, by decide +kernel⟩
def a_L_keeps : ASt :=
    (sSeq (sAsg (aC (.int 1)) (gN 2))
    (sSeq (sFor (aRg1 (aCons (aIx (aVar 1) (aC (.int 0))) aNil)) (gN 3) (sAsg (aOp fMul (aVar 2) (aVar 0)) (gN 2)))
    (sRet (aOp (fI pLe) (aVar 2) (aIx (aVar 1) (aC (.int 1)))))))
theorem dv_L_keeps {P : Program} {w : World} {K : Frg} {mg : Str → Option Value} {base : Heap} {C : Addr} (T : Tx K mg C) (E : XK) :
    ASs ⟨P, w, K, mg, base, ns_L_keeps, defScope st_L_keeps, 0, E, fun _ => true⟩ (defBody st_L_keeps) (a_L_keeps) := by
  have hN : (ns_L_keeps : List Str).Nodup := sc_L_keeps.nd
  have v0 : ∀ {pos : Pos}, AE ⟨P, w, K, mg, base, ns_L_keeps, defScope st_L_keeps, 0, E, fun _ => true⟩ (.Name "_law_number" pos) (aVar 0) := ae_var 0 rfl (Or.inl rfl) rfl rfl
  have v1 : ∀ {pos : Pos}, AE ⟨P, w, K, mg, base, ns_L_keeps, defScope st_L_keeps, 0, E, fun _ => true⟩ (.Name "_law_bound_here" pos) (aVar 1) := ae_var 1 rfl (Or.inl rfl) rfl rfl
  have v2 : ∀ {pos : Pos}, AE ⟨P, w, K, mg, base, ns_L_keeps, defScope st_L_keeps, 0, E, fun _ => true⟩ (.Name "_law_power" pos) (aVar 2) := ae_var 2 rfl (Or.inl rfl) rfl rfl
  exact (ass_cons (as_asg ae_int (ag_name 2 hN rfl (Or.inl rfl) (Or.inl rfl)) (fun _ => rfl) (fun _ _ => rfl) (fun _ => rfl))
    (ass_cons (as_for (ai_rg1 rfl T.b_range (aa_cons (ae_ix v1 ae_int (fun _ _ => rfl)) aa_nil) (fun _ => rfl)) (ag_name 3 hN rfl (Or.inl rfl) (Or.inl rfl)) (ass_one (as_asg (ae_op (fun _ _ => op_mulJ) snd_mulJ v2 v0) (ag_name 2 hN rfl (Or.inl rfl) (Or.inl rfl)) (fun _ => rfl) (fun _ _ => rfl) (fun _ => rfl))) (fun _ _ => rfl))
    (ass_one (as_ret (ae_cmp (fun _ _ => op_leJ) snd_I v2 (ae_ix v1 ae_int (fun _ _ => rfl)) rfl)))))

abbrev st_law : Stmt := top 68
abbrev ns_law : List Str := ["_law_script", "_law_d", "_law_catalogue_here", "_law_pattern_here", "_law_atoms", "_law_cover", "_law_bound_here", "_law_near", "_law_turn", "_law_number", "_law_told_here", "_law_bad", "_law_great", "_law_least", "_law_order", "_law_rows_here", "_law_k", "_law_one", "_law_other", "_law_found", "_law_chosen", "_law_a"]
theorem sc_law : FnScope ns_law ["_law_script"] (defScope st_law) := ⟨rfl, rfl, rfl, by decide +kernel, rfl, by decide +kernel, by decide +kernel⟩
def a_law (r_L_begin : RS) (r_L_bound : RS) (r_L_catalogue : RS) (r_L_covers : RS) (r_L_f : RS) (r_L_keeps : RS) (r_L_packs : RS) (r_L_pattern : RS) (r_L_shuffled : RS) (r_L_sum : RS) (r_L_take : RS) (r_L_told : RS) (r_L_variables : RS) (r_within : RS) : ASt :=
    (sSeq (sAsg (aCall r_L_begin (aCons (aVar 0) aNil)) (gN 1))
    (sSeq (sAsg (aCall r_L_catalogue (aCons (aVar 1) (aCons (aC (.int 3)) (aCons (aC (.int 7)) (aCons (aC (.int 4)) aNil))))) (gN 2))
    (sSeq (sAsg (aCall r_L_pattern (aCons (aVar 1) (aCons (aVar 2) (aCons (aC (.int 4)) (aCons (aC (.int 4)) aNil))))) (gN 3))
    (sSeq (sAsg (aIx (aVar 3) (aC (.int 1))) (gN 4))
    (sSeq (sAsg (aCB fTup (aCons (aFrz (aLc 16 [16] (aRg1 (aCons (aCB fLen (aCons (aVar 4) aNil)) aNil)) aYes (aCall r_L_f (aCons (aCall r_L_take (aCons (aVar 1) (aCons (aC (.int 6)) aNil))) (aCons (aOp fAdd (aC (.int 1)) (aCall r_L_take (aCons (aVar 1) (aCons (aC (.int 4)) aNil)))) aNil))))) aNil)) (gN 5))
    (sSeq (sAsg (aCall r_L_bound (aCons (aVar 2) (aCons (aVar 3) (aCons (aVar 5) aNil)))) (gN 6))
    (sSeq (sIf (aTest (aOp (fEq true) (aCall r_L_told (aCons (aC (.int 0)) (aCons (aVar 2) (aCons (aVar 3) (aCons (aVar 5) aNil))))) (aVar 6))) (sRet (aC (.bool false))) sNext)
    (sSeq (sAsg (aC (.int 0)) (gN 7))
    (sSeq (sFor (aRg1 (aCons (aC (.int 40)) aNil)) (gN 8) (sIf (aTest (aCall r_L_keeps (aCons (aOp fAdd (aVar 7) (aC (.int 1))) (aCons (aVar 6) aNil)))) (sAsg (aOp fAdd (aVar 7) (aC (.int 1))) (gN 7)) sNext))
    (sSeq (sFor (aSeqI (aTup (aCons (aC (.int 0)) (aCons (aC (.int 1)) (aCons (aVar 7) (aCons (aOp fAdd (aVar 7) (aC (.int 1))) (aCons (aOp fAdd (aVar 7) (aC (.int 2))) (aCons (aCall r_L_take (aCons (aVar 1) (aCons (aC (.int 99)) aNil))) aNil)))))))) (gN 9) (sSeq (sAsg (aCall r_within (aCons (aVar 9) (aCons (aVar 6) aNil))) (gN 10))
    (sIf (aOr (aNot (aTest (aCB fIsi (aCons (aVar 10) (aCons (aV (.ty "bool")) aNil))))) (aTest (aOp (fEq true) (aVar 10) (aCall r_L_keeps (aCons (aVar 9) (aCons (aVar 6) aNil)))))) (sRet (aC (.bool false))) sNext)))
    (sSeq (sAsg (aIx (aTup (aCons (aOp fAdd (aVar 5) (aTup (aCons (aTup (aCons (aC (.int 0)) (aCons (aC (.int 1)) aNil))) aNil))) (aCons (aSlT (aVar 5) (aSomeP (aC (.int 1))) aNoP) (aCons (aOp fAdd (aTup (aCons (aTup (aCons (aOp fSub (aC (.int 0)) (aC (.int 1))) (aCons (aC (.int 2)) aNil))) aNil)) (aSlT (aVar 5) (aSomeP (aC (.int 1))) aNoP)) (aCons (aOp fAdd (aTup (aCons (aTup (aCons (aC (.int 65)) (aCons (aC (.int 1)) aNil))) aNil)) (aSlT (aVar 5) (aSomeP (aC (.int 1))) aNoP)) (aCons (aOp fRepT (aTup (aCons (aTup (aCons (aC (.int 33)) (aCons (aC (.int 2)) aNil))) aNil)) (aCB fLen (aCons (aVar 5) aNil))) aNil)))))) (aCall r_L_take (aCons (aVar 1) (aCons (aC (.int 5)) aNil)))) (gN 11))
    (sSeq (sAsg (aIf (aTest (aOp (fEq false) (aCB fLen (aCons (aVar 11) aNil)) (aCB fLen (aCons (aVar 4) aNil)))) (aCB fMaxI (aCons (aFrz (aCat (aFrz (aLst (aCons (aC (.int 0)) aNil))) (aFrz (aLc 21 [21] (aSeqI (aVar 11)) aYes (aOp fDiv (aOp fMul (aIx (aCall r_L_bound (aCons (aVar 2) (aCons (aVar 3) (aCons (aVar 11) aNil)))) (aC (.int 0))) (aIx (aVar 21) (aC (.int 0)))) (aIx (aVar 21) (aC (.int 1)))))))) aNil)) (aC (.int 99))) (gN 12))
    (sSeq (sAsg (aCB fMinI (aCons (aFrz (aCat (aFrz (aLst (aCons (aC (.int 0)) aNil))) (aFrz (aLc 21 [21] (aSeqI (aVar 11)) aYes (aIx (aVar 21) (aC (.int 0))))))) aNil)) (gN 13))
    (sSeq (sIf (aTest (aOp (fEq true) (aCall r_L_told (aCons (aC (.int 0)) (aCons (aVar 2) (aCons (aVar 3) (aCons (aVar 11) aNil))))) (aIf (aOr (aTest (aOp (fI pGt) (aVar 12) (aC (.int 64)))) (aTest (aOp fLt (aVar 13) (aC (.int 0))))) (aC (.str "cover")) (aCall r_L_bound (aCons (aVar 2) (aCons (aVar 3) (aCons (aVar 11) aNil))))))) (sRet (aC (.bool false))) sNext)
    (sSeq (sAsg (aCall r_L_shuffled (aCons (aVar 1) (aCons (aCall r_L_variables (aCons (aVar 3) aNil)) aNil))) (gN 14))
    (sSeq (sAsg (aCall r_L_told (aCons (aC (.int 1)) (aCons (aVar 2) (aCons (aVar 3) (aCons (aVar 14) aNil))))) (gN 15))
    (sSeq (sIf (aOr (aNot (aTest (aCB fIsi (aCons (aVar 15) (aCons (aV (.ty "tuple")) aNil))))) (aTest (aOp (fEq true) (aCB fLen (aCons (aVar 15) aNil)) (aCB fLen (aCons (aVar 14) aNil))))) (sRet (aC (.bool false))) sNext)
    (sSeq (sFor (aRg1 (aCons (aCB fLen (aCons (aVar 14) aNil)) aNil)) (gN 16) (sSeq (sAsg (aIx (aVar 15) (aVar 16)) (gTu 3 (gsCons (gN 17) (gsCons (gN 18) (gsCons (gN 19) gsNil)))))
    (sSeq (sAsg (aSlT (aVar 14) aNoP (aSomeP (aOp fAdd (aVar 16) (aC (.int 1))))) (gN 20))
    (sSeq (sIf (aOr (aNot (aTest (aCall r_L_covers (aCons (aVar 3) (aCons (aVar 20) (aCons (aVar 17) aNil)))))) (aOr (aNot (aTest (aCall r_L_packs (aCons (aVar 3) (aCons (aVar 20) (aCons (aVar 18) aNil)))))) (aTest (aOp (fEq true) (aCall r_L_sum (aCons (aVar 17) aNil)) (aCall r_L_sum (aCons (aVar 18) aNil)))))) (sRet (aC (.bool false))) sNext)
    (sIf (aTest (aOp (fEq true) (aVar 19) (aCall r_L_bound (aCons (aVar 2) (aCons (aVar 3) (aCons (aVar 17) aNil)))))) (sRet (aC (.bool false))) sNext)))))
    (sRet (aOp (fEq false) (aCall r_L_told (aCons (aC (.int 1)) (aCons (aVar 2) (aCons (aVar 3) (aCons (aSlT (aVar 14) (aSomeP (aC (.int 1))) aNoP) aNil))))) (aC (.str "order"))))))))))))))))))))))
theorem dv_law {r_L_begin : RS} {r_L_bound : RS} {r_L_catalogue : RS} {r_L_covers : RS} {r_L_f : RS} {r_L_keeps : RS} {r_L_packs : RS} {r_L_pattern : RS} {r_L_shuffled : RS} {r_L_sum : RS} {r_L_take : RS} {r_L_told : RS} {r_L_variables : RS} {r_within : RS} {P : Program} {w : World} {K : Frg} {mg : Str → Option Value} {base : Heap} {C : Addr} (T : Tx K mg C) (E : XK) (C_L_begin : Cal P w K mg base 1 "_law_begin" r_L_begin) (C_L_bound : Cal P w K mg base 2 "_law_bound" r_L_bound) (C_L_catalogue : Cal P w K mg base 3 "_law_catalogue" r_L_catalogue) (C_L_covers : Cal P w K mg base 5 "_law_covers" r_L_covers) (C_L_f : Cal P w K mg base 2 "_law_f" r_L_f) (C_L_keeps : Cal P w K mg base 1 "_law_keeps" r_L_keeps) (C_L_packs : Cal P w K mg base 5 "_law_packs" r_L_packs) (C_L_pattern : Cal P w K mg base 2 "_law_pattern" r_L_pattern) (C_L_shuffled : Cal P w K mg base 2 "_law_shuffled" r_L_shuffled) (C_L_sum : Cal P w K mg base 4 "_law_sum" r_L_sum) (C_L_take : Cal P w K mg base 1 "_law_take" r_L_take) (C_L_told : Cal P w K mg base 6 "_law_told" r_L_told) (C_L_variables : Cal P w K mg base 1 "_law_variables" r_L_variables) (C_within : Cal P w K mg base 1 "within" r_within) :
    ASs ⟨P, w, K, mg, base, ns_law, defScope st_law, 6, E, fun _ => true⟩ (defBody st_law) (a_law r_L_begin r_L_bound r_L_catalogue r_L_covers r_L_f r_L_keeps r_L_packs r_L_pattern r_L_shuffled r_L_sum r_L_take r_L_told r_L_variables r_within) := by
  have hN : (ns_law : List Str).Nodup := sc_law.nd
  have v0 : ∀ {pos : Pos}, AE ⟨P, w, K, mg, base, ns_law, defScope st_law, 6, E, fun _ => true⟩ (.Name "_law_script" pos) (aVar 0) := ae_var 0 rfl (Or.inl rfl) rfl rfl
  have v1 : ∀ {pos : Pos}, AE ⟨P, w, K, mg, base, ns_law, defScope st_law, 6, E, fun _ => true⟩ (.Name "_law_d" pos) (aVar 1) := ae_var 1 rfl (Or.inr (Or.inl rfl)) rfl rfl
  have v2 : ∀ {pos : Pos}, AE ⟨P, w, K, mg, base, ns_law, defScope st_law, 6, E, fun _ => true⟩ (.Name "_law_catalogue_here" pos) (aVar 2) := ae_var 2 rfl (Or.inr (Or.inl rfl)) rfl rfl
  have v3 : ∀ {pos : Pos}, AE ⟨P, w, K, mg, base, ns_law, defScope st_law, 6, E, fun _ => true⟩ (.Name "_law_pattern_here" pos) (aVar 3) := ae_var 3 rfl (Or.inr (Or.inl rfl)) rfl rfl
  have v4 : ∀ {pos : Pos}, AE ⟨P, w, K, mg, base, ns_law, defScope st_law, 6, E, fun _ => true⟩ (.Name "_law_atoms" pos) (aVar 4) := ae_var 4 rfl (Or.inl rfl) rfl rfl
  have v5 : ∀ {pos : Pos}, AE ⟨P, w, K, mg, base, ns_law, defScope st_law, 6, E, fun _ => true⟩ (.Name "_law_cover" pos) (aVar 5) := ae_var 5 rfl (Or.inl rfl) rfl rfl
  have v6 : ∀ {pos : Pos}, AE ⟨P, w, K, mg, base, ns_law, defScope st_law, 6, E, fun _ => true⟩ (.Name "_law_bound_here" pos) (aVar 6) := ae_var 6 rfl (Or.inl rfl) rfl rfl
  have v7 : ∀ {pos : Pos}, AE ⟨P, w, K, mg, base, ns_law, defScope st_law, 6, E, fun _ => true⟩ (.Name "_law_near" pos) (aVar 7) := ae_var 7 rfl (Or.inl rfl) rfl rfl
  have v9 : ∀ {pos : Pos}, AE ⟨P, w, K, mg, base, ns_law, defScope st_law, 6, E, fun _ => true⟩ (.Name "_law_number" pos) (aVar 9) := ae_var 9 rfl (Or.inl rfl) rfl rfl
  have v10 : ∀ {pos : Pos}, AE ⟨P, w, K, mg, base, ns_law, defScope st_law, 6, E, fun _ => true⟩ (.Name "_law_told_here" pos) (aVar 10) := ae_var 10 rfl (Or.inl rfl) rfl rfl
  have v11 : ∀ {pos : Pos}, AE ⟨P, w, K, mg, base, ns_law, defScope st_law, 6, E, fun _ => true⟩ (.Name "_law_bad" pos) (aVar 11) := ae_var 11 rfl (Or.inr (Or.inl rfl)) rfl rfl
  have v12 : ∀ {pos : Pos}, AE ⟨P, w, K, mg, base, ns_law, defScope st_law, 6, E, fun _ => true⟩ (.Name "_law_great" pos) (aVar 12) := ae_var 12 rfl (Or.inl rfl) rfl rfl
  have v13 : ∀ {pos : Pos}, AE ⟨P, w, K, mg, base, ns_law, defScope st_law, 6, E, fun _ => true⟩ (.Name "_law_least" pos) (aVar 13) := ae_var 13 rfl (Or.inl rfl) rfl rfl
  have v14 : ∀ {pos : Pos}, AE ⟨P, w, K, mg, base, ns_law, defScope st_law, 6, E, fun _ => true⟩ (.Name "_law_order" pos) (aVar 14) := ae_var 14 rfl (Or.inl rfl) rfl rfl
  have v15 : ∀ {pos : Pos}, AE ⟨P, w, K, mg, base, ns_law, defScope st_law, 6, E, fun _ => true⟩ (.Name "_law_rows_here" pos) (aVar 15) := ae_var 15 rfl (Or.inl rfl) rfl rfl
  have v16 : ∀ {pos : Pos}, AE ⟨P, w, K, mg, base, ns_law, defScope st_law, 6, E, fun _ => true⟩ (.Name "_law_k" pos) (aVar 16) := ae_var 16 rfl (Or.inl rfl) rfl rfl
  have v17 : ∀ {pos : Pos}, AE ⟨P, w, K, mg, base, ns_law, defScope st_law, 6, E, fun _ => true⟩ (.Name "_law_one" pos) (aVar 17) := ae_var 17 rfl (Or.inl rfl) rfl rfl
  have v18 : ∀ {pos : Pos}, AE ⟨P, w, K, mg, base, ns_law, defScope st_law, 6, E, fun _ => true⟩ (.Name "_law_other" pos) (aVar 18) := ae_var 18 rfl (Or.inl rfl) rfl rfl
  have v19 : ∀ {pos : Pos}, AE ⟨P, w, K, mg, base, ns_law, defScope st_law, 6, E, fun _ => true⟩ (.Name "_law_found" pos) (aVar 19) := ae_var 19 rfl (Or.inl rfl) rfl rfl
  have v20 : ∀ {pos : Pos}, AE ⟨P, w, K, mg, base, ns_law, defScope st_law, 6, E, fun _ => true⟩ (.Name "_law_chosen" pos) (aVar 20) := ae_var 20 rfl (Or.inl rfl) rfl rfl
  exact (ass_cons (as_asg (ae_call C_L_begin (Nat.le_of_ble_eq_true rfl) rfl (aa_cons v0 aa_nil) rfl (fun _ => rfl) (fun _ => rfl)) (ag_name 1 hN rfl (Or.inr rfl) (Or.inl rfl)) (fun _ => rfl) (fun _ _ => rfl) (fun _ => rfl))
    (ass_cons (as_asg (ae_call C_L_catalogue (Nat.le_of_ble_eq_true rfl) rfl (aa_cons v1 (aa_cons ae_int (aa_cons ae_int (aa_cons ae_int aa_nil)))) rfl (fun _ => rfl) (fun _ => rfl)) (ag_name 2 hN rfl (Or.inr rfl) (Or.inl rfl)) (fun _ => rfl) (fun _ _ => rfl) (fun _ => rfl))
    (ass_cons (as_asg (ae_call C_L_pattern (Nat.le_of_ble_eq_true rfl) rfl (aa_cons v1 (aa_cons v2 (aa_cons ae_int (aa_cons ae_int aa_nil)))) rfl (fun _ => rfl) (fun _ => rfl)) (ag_name 3 hN rfl (Or.inr rfl) (Or.inl rfl)) (fun _ => rfl) (fun _ _ => rfl) (fun _ => rfl))
    (ass_cons (as_asg (ae_ix v3 ae_int (fun _ _ => rfl)) (ag_name 4 hN rfl (Or.inl rfl) (Or.inl rfl)) (fun _ => rfl) (fun _ _ => rfl) (fun _ => rfl))
    (ass_cons (as_asg (ae_callTy (fun X h => by have := call_tuple_of (X := X); rw [h.K] at this; exact this) snd_tuple rfl T.b_tuple boot_tuple' (aa_cons (ae_frz (al_lc (own := [("_law_k", 16)]) (j := 16) (ai_rg1 rfl T.b_range (aa_cons (ae_callB (fun X h => by have := call_len (X := X); rw [h.K] at this; exact this) snd_len rfl T.b_len boot_len' (aa_cons v4 aa_nil) (by decide) rfl (fun _ => rfl) (fun _ => rfl)) aa_nil) (fun _ => rfl)) hN (by dsimp only [Fx.blk]; decide +kernel) rfl (Or.inl rfl) (Or.inr rfl) (by decide) ats_nil (ae_call C_L_f (Nat.le_of_ble_eq_true rfl) rfl (aa_cons (ae_call C_L_take (Nat.le_of_ble_eq_true rfl) rfl (aa_cons (ae_var 1 rfl (Or.inr (Or.inl rfl)) rfl rfl) (aa_cons ae_int aa_nil)) rfl (fun _ => rfl) (fun _ => rfl)) (aa_cons (ae_op (fun _ h => op_addJ h) snd_addJ ae_int (ae_call C_L_take (Nat.le_of_ble_eq_true rfl) rfl (aa_cons (ae_var 1 rfl (Or.inr (Or.inl rfl)) rfl rfl) (aa_cons ae_int aa_nil)) rfl (fun _ => rfl) (fun _ => rfl))) aa_nil)) rfl (fun _ => rfl) (fun _ => rfl)) (fun _ _ => rfl))) aa_nil) (by decide) rfl (fun _ => rfl) (fun _ => rfl)) (ag_name 5 hN rfl (Or.inl rfl) (Or.inl rfl)) (fun _ => rfl) (fun _ _ => rfl) (fun _ => rfl))
    (ass_cons (as_asg (ae_call C_L_bound (Nat.le_of_ble_eq_true rfl) rfl (aa_cons v2 (aa_cons v3 (aa_cons v5 aa_nil))) rfl (fun _ => rfl) (fun _ => rfl)) (ag_name 6 hN rfl (Or.inl rfl) (Or.inl rfl)) (fun _ => rfl) (fun _ _ => rfl) (fun _ => rfl))
    (ass_cons (as_if (at_cmp (fun _ h => op_neJ h) snd_eqJ (ae_call C_L_told (Nat.le_of_ble_eq_true rfl) rfl (aa_cons ae_int (aa_cons v2 (aa_cons v3 (aa_cons v5 aa_nil)))) rfl (fun _ => rfl) (fun _ => rfl)) v6 rfl) (ass_one (as_ret ae_bl)) ass_nil)
    (ass_cons (as_asg ae_int (ag_name 7 hN rfl (Or.inl rfl) (Or.inl rfl)) (fun _ => rfl) (fun _ _ => rfl) (fun _ => rfl))
    (ass_cons (as_for (ai_rg1 rfl T.b_range (aa_cons ae_int aa_nil) (fun _ => rfl)) (ag_name 8 hN rfl (Or.inl rfl) (Or.inl rfl)) (ass_one (as_if (at_val (ae_call C_L_keeps (Nat.le_of_ble_eq_true rfl) rfl (aa_cons (ae_op (fun _ h => op_addJ h) snd_addJ v7 ae_int) (aa_cons v6 aa_nil)) rfl (fun _ => rfl) (fun _ => rfl)) (fun _ _ => rfl)) (ass_one (as_asg (ae_op (fun _ h => op_addJ h) snd_addJ v7 ae_int) (ag_name 7 hN rfl (Or.inl rfl) (Or.inl rfl)) (fun _ => rfl) (fun _ _ => rfl) (fun _ => rfl))) ass_nil)) (fun _ _ => rfl))
    (ass_cons (as_for (ai_seq (ae_tup (aa_cons ae_int (aa_cons ae_int (aa_cons v7 (aa_cons (ae_op (fun _ h => op_addJ h) snd_addJ v7 ae_int) (aa_cons (ae_op (fun _ h => op_addJ h) snd_addJ v7 ae_int) (aa_cons (ae_call C_L_take (Nat.le_of_ble_eq_true rfl) rfl (aa_cons v1 (aa_cons ae_int aa_nil)) rfl (fun _ => rfl) (fun _ => rfl)) aa_nil)))))))) (ag_name 9 hN rfl (Or.inl rfl) (Or.inl rfl)) (ass_cons (as_asg (ae_call C_within (Nat.le_of_ble_eq_true rfl) rfl (aa_cons v9 (aa_cons v6 aa_nil)) rfl (fun _ => rfl) (fun _ => rfl)) (ag_name 10 hN rfl (Or.inl rfl) (Or.inl rfl)) (fun _ => rfl) (fun _ _ => rfl) (fun _ => rfl))
    (ass_one (as_if (AWs.pt (aw_or (at_not (at_val (ae_callB (fun X h => by have := call_isi (X := X); rw [h.K] at this; exact this) snd_isi rfl T.b_isinstance boot_isinstance' (aa_cons v10 (aa_cons (ae_ty rfl T.b_bool boot_bool' (by decide) rfl) aa_nil)) (by decide) rfl (fun _ => rfl) (fun _ => rfl)) (fun _ _ => rfl))) (aw_or1 (at_cmp (fun _ h => op_neJ h) snd_eqJ v10 (ae_call C_L_keeps (Nat.le_of_ble_eq_true rfl) rfl (aa_cons v9 (aa_cons v6 aa_nil)) rfl (fun _ => rfl) (fun _ => rfl)) rfl)))) (ass_one (as_ret ae_bl)) ass_nil))) (fun _ _ => rfl))
    (ass_cons (as_asg (ae_ix (ae_tup (aa_cons (ae_op (fun _ h => op_addJ h) snd_addJ v5 (ae_tup (aa_cons (ae_tup (aa_cons ae_int (aa_cons ae_int aa_nil))) aa_nil))) (aa_cons (ae_slT v5 (ao_some ae_int) ao_none) (aa_cons (ae_op (fun _ h => op_addJ h) snd_addJ (ae_tup (aa_cons (ae_tup (aa_cons (ae_op (fun _ _ => op_sub) snd_sub ae_int ae_int) (aa_cons ae_int aa_nil))) aa_nil)) (ae_slT v5 (ao_some ae_int) ao_none)) (aa_cons (ae_op (fun _ h => op_addJ h) snd_addJ (ae_tup (aa_cons (ae_tup (aa_cons ae_int (aa_cons ae_int aa_nil))) aa_nil)) (ae_slT v5 (ao_some ae_int) ao_none)) (aa_cons (ae_op (fun _ h => op_repJ h) snd_repJ (ae_tup (aa_cons (ae_tup (aa_cons ae_int (aa_cons ae_int aa_nil))) aa_nil)) (ae_callB (fun X h => by have := call_len (X := X); rw [h.K] at this; exact this) snd_len rfl T.b_len boot_len' (aa_cons v5 aa_nil) (by decide) rfl (fun _ => rfl) (fun _ => rfl))) aa_nil)))))) (ae_call C_L_take (Nat.le_of_ble_eq_true rfl) rfl (aa_cons v1 (aa_cons ae_int aa_nil)) rfl (fun _ => rfl) (fun _ => rfl)) (fun _ _ => rfl)) (ag_name 11 hN rfl (Or.inr rfl) (Or.inl rfl)) (fun _ => rfl) (fun _ _ => rfl) (fun _ => rfl))
    (ass_cons (as_asg (ae_if (at_cmp (fun _ h => op_eqJ h) snd_eqJ (ae_callB (fun X h => by have := call_len (X := X); rw [h.K] at this; exact this) snd_len rfl T.b_len boot_len' (aa_cons v11 aa_nil) (by decide) rfl (fun _ => rfl) (fun _ => rfl)) (ae_callB (fun X h => by have := call_len (X := X); rw [h.K] at this; exact this) snd_len rfl T.b_len boot_len' (aa_cons v4 aa_nil) (by decide) rfl (fun _ => rfl) (fun _ => rfl)) rfl) (ae_callB (cK fun _ h => cr_max h) snd_maxI rfl T.b_max boot_max' (aa_cons (ae_frz (al_cat (ae_frz (al_lst (aa_cons ae_int aa_nil))) (ae_frz (al_lc (own := [("_law_a", 21)]) (j := 21) (ai_seq v11) hN (by dsimp only [Fx.blk]; decide +kernel) rfl (Or.inl rfl) (Or.inr rfl) (by decide) ats_nil (ae_op (fun _ _ => op_fdivW) snd_div (ae_op (fun _ _ => op_mulJ) snd_mulJ (ae_ix (ae_call C_L_bound (Nat.le_of_ble_eq_true rfl) rfl (aa_cons (ae_var 2 rfl (Or.inr (Or.inl rfl)) rfl rfl) (aa_cons (ae_var 3 rfl (Or.inr (Or.inl rfl)) rfl rfl) (aa_cons (ae_var 11 rfl (Or.inr (Or.inl rfl)) rfl rfl) aa_nil))) rfl (fun _ => rfl) (fun _ => rfl)) ae_int (fun _ _ => rfl)) (ae_ix (ae_var 21 rfl (Or.inl rfl) rfl rfl) ae_int (fun _ _ => rfl))) (ae_ix (ae_var 21 rfl (Or.inl rfl) rfl rfl) ae_int (fun _ _ => rfl))) (fun _ _ => rfl))))) aa_nil) (by decide) rfl (fun _ => rfl) (fun _ => rfl)) ae_int) (ag_name 12 hN rfl (Or.inl rfl) (Or.inl rfl)) (fun _ => rfl) (fun _ _ => rfl) (fun _ => rfl))
    (ass_cons (as_asg (ae_callB (cK fun _ h => cr_min h) snd_minI rfl T.b_min boot_min' (aa_cons (ae_frz (al_cat (ae_frz (al_lst (aa_cons ae_int aa_nil))) (ae_frz (al_lc (own := [("_law_a", 21)]) (j := 21) (ai_seq v11) hN (by dsimp only [Fx.blk]; decide +kernel) rfl (Or.inl rfl) (Or.inr rfl) (by decide) ats_nil (ae_ix (ae_var 21 rfl (Or.inl rfl) rfl rfl) ae_int (fun _ _ => rfl)) (fun _ _ => rfl))))) aa_nil) (by decide) rfl (fun _ => rfl) (fun _ => rfl)) (ag_name 13 hN rfl (Or.inl rfl) (Or.inl rfl)) (fun _ => rfl) (fun _ _ => rfl) (fun _ => rfl))
    (ass_cons (as_if (at_cmp (fun _ h => op_neJ h) snd_eqJ (ae_call C_L_told (Nat.le_of_ble_eq_true rfl) rfl (aa_cons ae_int (aa_cons v2 (aa_cons v3 (aa_cons v11 aa_nil)))) rfl (fun _ => rfl) (fun _ => rfl)) (ae_if (AWs.pt (aw_or (at_cmp (fun _ _ => op_gtJ) snd_I v12 ae_int rfl) (aw_or1 (at_cmp (fun _ h => op_ltJ h) snd_ltJ v13 ae_int rfl)))) ae_str (ae_call C_L_bound (Nat.le_of_ble_eq_true rfl) rfl (aa_cons v2 (aa_cons v3 (aa_cons v11 aa_nil))) rfl (fun _ => rfl) (fun _ => rfl))) rfl) (ass_one (as_ret ae_bl)) ass_nil)
    (ass_cons (as_asg (ae_call C_L_shuffled (Nat.le_of_ble_eq_true rfl) rfl (aa_cons v1 (aa_cons (ae_call C_L_variables (Nat.le_of_ble_eq_true rfl) rfl (aa_cons v3 aa_nil) rfl (fun _ => rfl) (fun _ => rfl)) aa_nil)) rfl (fun _ => rfl) (fun _ => rfl)) (ag_name 14 hN rfl (Or.inl rfl) (Or.inl rfl)) (fun _ => rfl) (fun _ _ => rfl) (fun _ => rfl))
    (ass_cons (as_asg (ae_call C_L_told (Nat.le_of_ble_eq_true rfl) rfl (aa_cons ae_int (aa_cons v2 (aa_cons v3 (aa_cons v14 aa_nil)))) rfl (fun _ => rfl) (fun _ => rfl)) (ag_name 15 hN rfl (Or.inl rfl) (Or.inl rfl)) (fun _ => rfl) (fun _ _ => rfl) (fun _ => rfl))
    (ass_cons (as_if (AWs.pt (aw_or (at_not (at_val (ae_callB (fun X h => by have := call_isi (X := X); rw [h.K] at this; exact this) snd_isi rfl T.b_isinstance boot_isinstance' (aa_cons v15 (aa_cons (ae_ty rfl T.b_tuple boot_tuple' (by decide) rfl) aa_nil)) (by decide) rfl (fun _ => rfl) (fun _ => rfl)) (fun _ _ => rfl))) (aw_or1 (at_cmp (fun _ h => op_neJ h) snd_eqJ (ae_callB (fun X h => by have := call_len (X := X); rw [h.K] at this; exact this) snd_len rfl T.b_len boot_len' (aa_cons v15 aa_nil) (by decide) rfl (fun _ => rfl) (fun _ => rfl)) (ae_callB (fun X h => by have := call_len (X := X); rw [h.K] at this; exact this) snd_len rfl T.b_len boot_len' (aa_cons v14 aa_nil) (by decide) rfl (fun _ => rfl) (fun _ => rfl)) rfl)))) (ass_one (as_ret ae_bl)) ass_nil)
    (ass_cons (as_for (ai_rg1 rfl T.b_range (aa_cons (ae_callB (fun X h => by have := call_len (X := X); rw [h.K] at this; exact this) snd_len rfl T.b_len boot_len' (aa_cons v14 aa_nil) (by decide) rfl (fun _ => rfl) (fun _ => rfl)) aa_nil) (fun _ => rfl)) (ag_name 16 hN rfl (Or.inl rfl) (Or.inl rfl)) (ass_cons (as_asg (ae_ix v15 v16 (fun _ _ => rfl)) (ag_tup (ags_cons (ag_name 17 hN rfl (Or.inl rfl) (Or.inl rfl)) (ags_cons (ag_name 18 hN rfl (Or.inl rfl) (Or.inl rfl)) (ags_cons (ag_name 19 hN rfl (Or.inl rfl) (Or.inl rfl)) ags_nil (fun _ => rfl)) (fun _ => rfl)) (fun _ => rfl)) (fun _ => rfl) (fun _ => rfl)) (fun _ => rfl) (fun _ _ => rfl) (fun _ => rfl))
    (ass_cons (as_asg (ae_slT v14 ao_none (ao_some (ae_op (fun _ h => op_addJ h) snd_addJ v16 ae_int))) (ag_name 20 hN rfl (Or.inl rfl) (Or.inl rfl)) (fun _ => rfl) (fun _ _ => rfl) (fun _ => rfl))
    (ass_cons (as_if (AWs.pt (aw_or (at_not (at_val (ae_call C_L_covers (Nat.le_of_ble_eq_true rfl) rfl (aa_cons v3 (aa_cons v20 (aa_cons v17 aa_nil))) rfl (fun _ => rfl) (fun _ => rfl)) (fun _ _ => rfl))) (aw_or (at_not (at_val (ae_call C_L_packs (Nat.le_of_ble_eq_true rfl) rfl (aa_cons v3 (aa_cons v20 (aa_cons v18 aa_nil))) rfl (fun _ => rfl) (fun _ => rfl)) (fun _ _ => rfl))) (aw_or1 (at_cmp (fun _ h => op_neJ h) snd_eqJ (ae_call C_L_sum (Nat.le_of_ble_eq_true rfl) rfl (aa_cons v17 aa_nil) rfl (fun _ => rfl) (fun _ => rfl)) (ae_call C_L_sum (Nat.le_of_ble_eq_true rfl) rfl (aa_cons v18 aa_nil) rfl (fun _ => rfl) (fun _ => rfl)) rfl))))) (ass_one (as_ret ae_bl)) ass_nil)
    (ass_one (as_if (at_cmp (fun _ h => op_neJ h) snd_eqJ v19 (ae_call C_L_bound (Nat.le_of_ble_eq_true rfl) rfl (aa_cons v2 (aa_cons v3 (aa_cons v17 aa_nil))) rfl (fun _ => rfl) (fun _ => rfl)) rfl) (ass_one (as_ret ae_bl)) ass_nil))))) (fun _ _ => rfl))
    (ass_one (as_ret (ae_cmp (fun _ h => op_eqJ h) snd_eqJ (ae_call C_L_told (Nat.le_of_ble_eq_true rfl) rfl (aa_cons ae_int (aa_cons v2 (aa_cons v3 (aa_cons (ae_slT v14 (ao_some ae_int) ao_none) aa_nil)))) rfl (fun _ => rfl) (fun _ => rfl)) ae_str rfl)))))))))))))))))))))

end Jh

set_option Elab.async false
set_option linter.all false
set_option maxRecDepth 100000
set_option maxHeartbeats 4000000
namespace Jh
open PySem PySem.Spec PyProof.Rows L2

local macro_rules | `(tactic| walk_at "js") => `(tactic| simp only [aVar, aC, aOp, aTest, aChain, aAnd, aOr, aNot, aAndV, aOrV, aIf, aNeg, aNil, aCons, aTup, aLst, aFrz, aOwn, allD, cellsOf, listOf, fAdd, fSub, fMul, fDiv, fMod, fPow, fLt, fI, pLe, pGt, pGe, fEq, fIn, fNotN, someD, fIx, aIx, aNoP, aSomeP, aSlT, aSlL, aCat, aRep, aCB, aCBL, fLen, fAbs, fInt, fGcd, fLcm, fTup, fList, aSeqI, aRg1, aRg2, gN, gsNil, gsCons, gTu, sNext, sSeq, sNever, sAsg, sPar, sExp, sRet, sIf, sFor, sLcO, sLcF, aLc, aYes, aCall,
  List.getElem?_cons_zero, List.getElem?_cons_succ, List.set_cons_zero, List.set_cons_succ, List.map_cons, List.map_nil, Option.map_some, Option.map_none, wipeE, List.length_cons, List.length_nil])
/-- a fold of for over what is walked: pure steps -/
theorem lcL_pure {j : Nat} {ρ : En} {t : AT} {a : AX} {st : Sto → Prop} {Q : List Cl → Sto → Prop} {μ : Sto} (p : Cl → Bool) (f : Cl → Cl) (hs : st μ) :
    ∀ (xs : List Cl) (acc : List Cl), (∀ x ∈ xs, ∀ Q, Q (p x) μ → t (fun _ _ => False) (ρ.set j (some x)) μ Q) → (∀ x ∈ xs, p x = true → ∀ Q, Q (f x) μ → a (fun _ _ => False) (ρ.set j (some x)) μ Q) → acc.length + xs.length ≤ 1000 →
      Q (acc ++ (xs.filter p).map f) μ → lcL j ρ t a st Q xs acc μ
  | [], acc, _, _, _, h => ⟨hs, by simpa using h⟩
  | x :: xs, acc, ht, ha, hl, h => by
    refine ⟨hs, by simp at hl; omega, ht x List.mem_cons_self _ ?_⟩
    cases hp : p x with
    | true =>
      refine ha x List.mem_cons_self hp _ (lcL_pure p f hs xs (acc ++ [f x]) (fun y hy => ht y (List.mem_cons_of_mem _ hy)) (fun y hy => ha y (List.mem_cons_of_mem _ hy)) (by simp at hl ⊢; omega) ?_)
      rw [List.filter_cons, if_pos hp] at h
      simpa using h
    | false =>
      refine lcL_pure p f hs xs acc (fun y hy => ht y (List.mem_cons_of_mem _ hy)) (fun y hy => ha y (List.mem_cons_of_mem _ hy)) (by simp at hl ⊢; omega) ?_
      rw [List.filter_cons, if_neg (by simp [hp])] at h
      exact h
theorem lcL_all {j : Nat} {ρ : En} {a : AX} {st : Sto → Prop} {Q : List Cl → Sto → Prop} {μ : Sto} (f : Cl → Cl) (hs : st μ) (xs : List Cl) (ha : ∀ x ∈ xs, ∀ Q, Q (f x) μ → a (fun _ _ => False) (ρ.set j (some x)) μ Q) (hl : xs.length ≤ 1000)
    (h : Q (xs.map f) μ) : lcL j ρ aYes a st Q xs [] μ := by
  refine lcL_pure (fun _ => true) f hs xs [] (fun x _ Q h => h) (fun x hx _ => ha x hx) (by simpa using hl) ?_
  have e : xs.filter (fun _ => true) = xs := List.filter_eq_self.mpr fun _ _ => rfl
  rw [e]
  exact h
/-! ### data -/
abbrev Frc := Int × Int
def dF (f : Frc) : PyData := .tuple [.int f.1, .int f.2]
def fr (a b : Int) : Frc := (a / (Int.gcd a b : Nat), b / (Int.gcd a b : Nat))
theorem eqv_int (a b : Int) : PyData.eqv (.int a) (.int b) = decide (a = b) := PySem.W.Datum.eqv a b
theorem eqv_str (a b : Str) : PyData.eqv (.str a) (.str b) = decide (a = b) := PySem.W.Datum.eqv a b
theorem eqv_dF (a b : Frc) : PyData.eqv (dF a) (dF b) = decide (a = b) := PySem.W.Datum.eqv a b
theorem depth_dF (a : Frc) : (dF a).depth ≤ 32 := Nat.le_trans (PySem.W.Datum.depth_le a) (by decide)
theorem mulL {i j : Int} (h : -1000000 ≤ i ∧ i ≤ 1000000) : MulOk i j := .inl (.inl ⟨by omega, by omega⟩)
theorem mulR {i j : Int} (h : -1000000 ≤ j ∧ j ≤ 1000000) : MulOk i j := .inl (.inr ⟨by omega, by omega⟩)
theorem divOk {i j : Int} (h : 0 < j ∧ j ≤ 1000000) : CDivW i j := by
  refine ⟨h.1, ?_⟩
  by_cases h0 : j.natAbs = 0
  · rw [h0]; decide
  · have := Nat.log2_lt (n := j.natAbs) (k := 9000) h0
    rw [this]
    exact Nat.lt_of_lt_of_le (show j.natAbs < 2 ^ 20 by omega) (Nat.pow_le_pow_right (by decide) (by decide))
/-! ### _law_gcd -/
def r_L_gcd : RS := fun cs μ A _ => ∃ a b : Int, cs = [.d (.int a), .d (.int b)] ∧ 0 ≤ b ∧ A (.d (.int (Int.gcd a b : Nat))) μ
theorem gcd_mod (a b : Int) : Int.gcd b (a % b) = Int.gcd a b := by
  have h := Int.gcd_mul_left_add_right b (a % b) (a / b)
  rw [Int.mul_ediv_add_emod] at h
  rw [← h, Int.gcd_comm]
theorem gcd_loop {D : AD} {μ : Sto} : ∀ (n : Nat) (a b : Int), 0 ≤ b → b.toNat < n → (∀ g : Int, g.natAbs = Int.gcd a b → D.nx [some (.d (.int g)), some (.d (.int 0))] μ) →
    whN (aTest (aOp (fEq true) (aVar 1) (aC (.int 0)))) (sPar 0 1 (aCons (aVar 1) (aCons (aOp fMod (aCB fInt (aCons (aVar 0) aNil)) (aVar 1)) aNil))) D n [some (.d (.int a)), some (.d (.int b))] μ
  | 0, a, b, _, h, _ => by omega
  | n + 1, a, b, hb, hn, h => by
    refine And.intro (show (0 : Nat) ≤ 32 by decide) ?_
    show match (true != PyData.eqv (.int b) (.int 0)) with | true => _ | false => _
    rw [eqv_int]
    by_cases e : b = 0
    · subst e
      have e1 : (true != decide ((0 : Int) = 0)) = false := by decide
      rw [e1]
      exact h a (by simp)
    · rw [decide_eq_false e]
      have hb' : 0 < b := by omega
      refine And.intro hb' ?_
      have h1 := Int.emod_nonneg a e
      have h2 := Int.emod_lt_of_pos a hb'
      exact gcd_loop n b (a % b) h1 (by omega) (fun g hg => h g (by rw [hg, gcd_mod]))
theorem h_L_gcd (cs : List Cl) (μ : Sto) (A : Cl → Sto → Prop) (er : Er) (h : r_L_gcd cs μ A er) : a_L_gcd (bodyD μ A er) (startE ns_L_gcd cs) μ := by
  obtain ⟨a, b, rfl, hb, h⟩ := h
  refine ⟨b.toNat + 1, gcd_loop _ a b hb (by omega) fun g hg => ?_⟩
  refine .inl ?_
  have e : (if g < 0 then -g else g) = ((Int.gcd a b : Nat) : Int) := by
    rw [← hg]; split <;> omega
  show A (.d (.int (if g < 0 then -g else g))) μ
  rw [e]
  exact h
/-! ### _law_f, _law_plus, _law_less, fraction -/
def r_L_f : RS := fun cs μ A _ => ∃ a b : Int, cs = [.d (.int a), .d (.int b)] ∧ 0 < b ∧ b ≤ 1000000 ∧ A (.d (dF (fr a b))) μ
theorem gcd_bd {a b : Int} (hb : 0 < b) (hl : b ≤ 1000000) : 0 < ((Int.gcd a b : Nat) : Int) ∧ ((Int.gcd a b : Nat) : Int) ≤ 1000000 := by
  have h1 : 0 < Int.gcd a b := Int.gcd_pos_of_ne_zero_right a (by omega)
  have h2 := Int.gcd_le_natAbs_right (a := a) (b := b) (by omega)
  omega
theorem h_L_f (cs : List Cl) (μ : Sto) (A : Cl → Sto → Prop) (er : Er) (h : r_L_f cs μ A er) : a_L_f r_L_gcd (bodyD μ A er) (startE ns_L_f cs) μ := by
  obtain ⟨a, b, rfl, hb, hl, h⟩ := h
  show match decide (b < 0) with | true => _ | false => _
  rw [decide_eq_false (by omega)]
  refine ⟨_, b, rfl, by omega, ?_⟩
  have e : Int.gcd (if a < 0 then -a else a) b = Int.gcd a b := by
    split
    · exact Int.neg_gcd
    · rfl
  rw [e]
  have g := gcd_bd (a := a) hb hl
  refine And.intro (divOk g) (And.intro (divOk g) (And.intro (Nat.le_of_ble_eq_true rfl) ?_))
  exact .inl h
def r_L_plus : RS := fun cs μ A _ => ∃ x y : Frc, cs = [.d (dF x), .d (dF y)] ∧ (-1000 ≤ x.1 ∧ x.1 ≤ 1000) ∧ (1 ≤ x.2 ∧ x.2 ≤ 1000) ∧ (-1000 ≤ y.1 ∧ y.1 ≤ 1000) ∧ (1 ≤ y.2 ∧ y.2 ≤ 1000) ∧ A (.d (dF (fr (x.1 * y.2 + y.1 * x.2) (x.2 * y.2)))) μ
theorem h_L_plus (cs : List Cl) (μ : Sto) (A : Cl → Sto → Prop) (er : Er) (h : r_L_plus cs μ A er) : a_L_plus r_L_f (bodyD μ A er) (startE ns_L_plus cs) μ := by
  obtain ⟨x, y, rfl, h1, h2, h3, h4, h⟩ := h
  refine And.intro (mulL (by omega)) (And.intro (mulL (by omega)) (And.intro (mulL (by omega)) ?_))
  have p1 : 1 * 1 ≤ x.2 * y.2 := Int.mul_le_mul h2.1 h4.1 (by omega) (by omega)
  have p2 : x.2 * y.2 ≤ 1000 * 1000 := Int.mul_le_mul h2.2 h4.2 (by omega) (by omega)
  exact ⟨_, _, rfl, by omega, by omega, .inl h⟩
def r_L_less : RS := fun cs μ A _ => ∃ x y : Frc, cs = [.d (dF x), .d (dF y)] ∧ (-1000 ≤ x.1 ∧ x.1 ≤ 1000) ∧ (-1000 ≤ y.1 ∧ y.1 ≤ 1000) ∧ A (.d (.bool (decide (x.1 * y.2 < y.1 * x.2)))) μ
theorem h_L_less (cs : List Cl) (μ : Sto) (A : Cl → Sto → Prop) (er : Er) (h : r_L_less cs μ A er) : a_L_less (bodyD μ A er) (startE ns_L_less cs) μ := by
  obtain ⟨x, y, rfl, h1, h3, h⟩ := h
  exact And.intro (mulL (by omega)) (And.intro (mulL (by omega)) (.inl h))
def r_fraction : RS := fun cs μ A _ => ∃ a b : Int, cs = [.d (.int a), .d (.int b)] ∧ 0 < b ∧ b ≤ 1000000 ∧ A (.d (dF (fr a b))) μ
theorem h_fraction (cs : List Cl) (μ : Sto) (A : Cl → Sto → Prop) (er : Er) (h : r_fraction cs μ A er) : a_fraction (bodyD μ A er) (startE ns_fraction cs) μ := by
  obtain ⟨a, b, rfl, hb, hl, h⟩ := h
  refine And.intro (show (0 : Nat) ≤ 32 by decide) ?_
  show match (false != PyData.eqv (.int b) (.int 0)) with | true => _ | false => _
  rw [eqv_int, decide_eq_false (by omega)]
  show match decide (b < 0) with | true => _ | false => _
  rw [decide_eq_false (by omega)]
  have g := gcd_bd (a := a) hb hl
  refine And.intro (divOk g) (And.intro (divOk g) (And.intro (Nat.le_of_ble_eq_true rfl) ?_))
  exact .inl h
end Jh

set_option Elab.async false
set_option linter.all false
set_option maxRecDepth 100000
set_option maxHeartbeats 4000000
namespace Jh
open PySem PySem.Spec PyProof.Rows L2
/-! ### fractions -/
theorem dvd_of_cop {v u w : Int} (c : Int.gcd v u = 1) (h : v ∣ u * w) : v ∣ w := by
  have e := Int.gcd_mul_right_right_of_gcd_eq_one (k := w) c
  have e2 : Int.gcd v (u * w) = v.natAbs := by
    obtain ⟨z, hz⟩ := h
    rw [hz, Int.gcd_eq_natAbs_gcd_natAbs, Int.natAbs_mul]
    exact Nat.gcd_eq_left (Nat.dvd_mul_right _ _)
  rw [e2] at e
  have d := Int.gcd_dvd_right v w
  rw [← e] at d
  exact Int.natAbs_dvd.mp d
theorem pow_mono {x : Int} (h : 1 ≤ x) (n : Nat) : ∀ k : Nat, x ^ n ≤ x ^ (n + k)
  | 0 => Int.le_refl _
  | k + 1 => by
    have ih := pow_mono h n k
    have p : 0 ≤ x ^ (n + k) := Int.pow_nonneg (by omega)
    have := Int.mul_le_mul_of_nonneg_left h p
    rw [← Nat.add_assoc, Int.pow_succ]
    omega
theorem fr_eq {p q p' q' : Int} (hq : 0 < q) (hq' : 0 < q') (h : p * q' = p' * q) : fr p q = fr p' q' := by
  have g1 : 0 < Int.gcd p q := Int.gcd_pos_of_ne_zero_right p (by omega)
  have g2 : 0 < Int.gcd p' q' := Int.gcd_pos_of_ne_zero_right p' (by omega)
  have c1 := Int.gcd_ediv_gcd_ediv_gcd (i := p) (j := q) g1
  have c2 := Int.gcd_ediv_gcd_ediv_gcd (i := p') (j := q') g2
  have e1 : p / (Int.gcd p q : Nat) * (Int.gcd p q : Nat) = p := Int.ediv_mul_cancel (Int.gcd_dvd_left p q)
  have e2 : q / (Int.gcd p q : Nat) * (Int.gcd p q : Nat) = q := Int.ediv_mul_cancel (Int.gcd_dvd_right p q)
  have e3 : p' / (Int.gcd p' q' : Nat) * (Int.gcd p' q' : Nat) = p' := Int.ediv_mul_cancel (Int.gcd_dvd_left p' q')
  have e4 : q' / (Int.gcd p' q' : Nat) * (Int.gcd p' q' : Nat) = q' := Int.ediv_mul_cancel (Int.gcd_dvd_right p' q')
  unfold fr
  generalize p / (Int.gcd p q : Nat) = u at *
  generalize q / (Int.gcd p q : Nat) = v at *
  generalize p' / (Int.gcd p' q' : Nat) = u' at *
  generalize q' / (Int.gcd p' q' : Nat) = v' at *
  have hg1 : (0 : Int) < (Int.gcd p q : Nat) := by omega
  have hg2 : (0 : Int) < (Int.gcd p' q' : Nat) := by omega
  have k : u * v' = u' * v := by
    have : (u * v') * ((Int.gcd p q : Nat) * (Int.gcd p' q' : Nat)) = (u' * v) * ((Int.gcd p q : Nat) * (Int.gcd p' q' : Nat)) := by
      have a1 : (u * v') * (((Int.gcd p q : Nat) : Int) * (Int.gcd p' q' : Nat)) = (u * (Int.gcd p q : Nat)) * (v' * (Int.gcd p' q' : Nat)) := by
        rw [Int.mul_assoc, Int.mul_assoc]; congr 1
        rw [← Int.mul_assoc, Int.mul_comm v', Int.mul_assoc]
      have a2 : (u' * v) * (((Int.gcd p q : Nat) : Int) * (Int.gcd p' q' : Nat)) = (u' * (Int.gcd p' q' : Nat)) * (v * (Int.gcd p q : Nat)) := by
        rw [Int.mul_comm ((Int.gcd p q : Nat) : Int), Int.mul_assoc, Int.mul_assoc]; congr 1
        rw [← Int.mul_assoc, Int.mul_comm v, Int.mul_assoc]
      rw [a1, a2, e1, e2, e3, e4, h]
    exact Int.eq_of_mul_eq_mul_right (by have := Int.mul_pos hg1 hg2; omega) this
  have hv : 0 < v := by
    rcases Int.lt_trichotomy v 0 with z | z | z
    · have := Int.mul_neg_of_neg_of_pos z hg1; omega
    · subst z; omega
    · exact z
  have hv' : 0 < v' := by
    rcases Int.lt_trichotomy v' 0 with z | z | z
    · have := Int.mul_neg_of_neg_of_pos z hg2; omega
    · subst z; omega
    · exact z
  have d1 : v ∣ v' := dvd_of_cop (by rw [Int.gcd_comm]; exact c1) (by rw [k]; exact Int.dvd_mul_left _ _)
  have d2 : v' ∣ v := dvd_of_cop (by rw [Int.gcd_comm]; exact c2) (by rw [← k]; exact Int.dvd_mul_left _ _)
  have ev : v = v' := by
    have a1 := Int.le_of_dvd hv' d1
    have a2 := Int.le_of_dvd hv d2
    omega
  subst ev
  have : u = u' := Int.eq_of_mul_eq_mul_right (by omega) k
  rw [this]
theorem fr_spec {a D : Int} (hD : 0 < D) : ∃ g : Int, 0 < g ∧ (fr a D).1 * g = a ∧ (fr a D).2 * g = D ∧ 0 < (fr a D).2 := by
  have g1 : 0 < Int.gcd a D := Int.gcd_pos_of_ne_zero_right a (by omega)
  have e2 : (fr a D).2 * (Int.gcd a D : Nat) = D := Int.ediv_mul_cancel (Int.gcd_dvd_right a D)
  refine ⟨(Int.gcd a D : Nat), by omega, Int.ediv_mul_cancel (Int.gcd_dvd_left a D), e2, ?_⟩
  rcases Int.lt_trichotomy (fr a D).2 0 with z | z | z
  · have := Int.mul_neg_of_neg_of_pos z (show (0 : Int) < (Int.gcd a D : Nat) by omega); omega
  · rw [z] at e2; omega
  · exact z
theorem fr_bd {a D : Int} (h0 : 0 ≤ a) (hD : 0 < D) : 0 ≤ (fr a D).1 ∧ (fr a D).1 ≤ a ∧ 1 ≤ (fr a D).2 ∧ (fr a D).2 ≤ D := by
  obtain ⟨g, hg, e1, e2, hp⟩ := fr_spec (a := a) hD
  have n1 : 0 ≤ (fr a D).1 := by
    rcases Int.lt_or_le (fr a D).1 0 with z | z
    · have := Int.mul_neg_of_neg_of_pos z hg; omega
    · exact z
  have a1 : (fr a D).1 * 1 ≤ (fr a D).1 * g := Int.mul_le_mul_of_nonneg_left (by omega) n1
  have a2 : (fr a D).2 * 1 ≤ (fr a D).2 * g := Int.mul_le_mul_of_nonneg_left (by omega) (by omega)
  omega
theorem fr_cross {a D : Int} (hD : 0 < D) : (fr a D).1 * D = a * (fr a D).2 := by
  obtain ⟨g, hg, e1, e2, hp⟩ := fr_spec (a := a) hD
  generalize (fr a D).1 = x at *
  generalize (fr a D).2 = y at *
  subst e1 e2
  rw [Int.mul_comm y g, ← Int.mul_assoc]
theorem fr_plus {a b D : Int} (hD : 0 < D) : fr ((fr a D).1 * (fr b D).2 + (fr b D).1 * (fr a D).2) ((fr a D).2 * (fr b D).2) = fr (a + b) D := by
  obtain ⟨g, hg, e1, e2, hp⟩ := fr_spec (a := a) hD
  obtain ⟨g', hg', e1', e2', hp'⟩ := fr_spec (a := b) hD
  have c1 := fr_cross (a := a) hD
  have c2 := fr_cross (a := b) hD
  refine fr_eq (Int.mul_pos hp hp') hD ?_
  generalize (fr a D).1 = x at *
  generalize (fr a D).2 = y at *
  generalize (fr b D).1 = x' at *
  generalize (fr b D).2 = y' at *
  rw [Int.add_mul, Int.add_mul]
  have z1 : x * y' * D = a * (y * y') := by
    rw [Int.mul_assoc, Int.mul_comm y' D, ← Int.mul_assoc, c1, Int.mul_assoc]
  have z2 : x' * y * D = b * (y * y') := by
    rw [Int.mul_assoc, Int.mul_comm y D, ← Int.mul_assoc, c2, Int.mul_assoc, Int.mul_comm y' y]
  rw [z1, z2]
theorem fr_zero {D : Int} (hD : 0 < D) : fr 0 D = (0, 1) := by
  have : fr 0 D = fr 0 1 := fr_eq hD (by decide) (by omega)
  rw [this]
  rfl
theorem fr_inj {a b D : Int} (hD : 0 < D) (h : fr a D = fr b D) : a = b := by
  have c1 := fr_cross (a := a) hD
  have c2 := fr_cross (a := b) hD
  obtain ⟨g, hg, e1, e2, hp⟩ := fr_spec (a := b) hD
  rw [h, c2] at c1
  exact (Int.eq_of_mul_eq_mul_right (by omega) c1).symm
/-! ### _law_sum -/
def isum : List Int → Int
  | [] => 0
  | x :: xs => x + isum xs
def SeqD (x : PyData) (l : List PyData) : Prop := x = .list l ∨ x = .tuple l
theorem seqD_cells {x : PyData} {l : List PyData} (h : SeqD x l) (μ : Sto) : cellsOf (.d x) μ = some (l.map .d) := by
  rcases h with rfl | rfl <;> rfl
def r_L_sum : RS := fun cs μ A _ => ∃ (x : PyData) (D : Int) (as : List Int), cs = [.d x] ∧ SeqD x (as.map fun a => dF (fr a D)) ∧ 1 ≤ D ∧ D ≤ 8 ∧ (∀ a ∈ as, 0 ≤ a ∧ a ≤ 100) ∧ as.length ≤ 8 ∧ A (.d (dF (fr (isum as) D))) μ
theorem sum_loop {D : Int} {c : Cl} {μ : Sto} {st : Sto → Prop} {Z : AD} (hD : 1 ≤ D) (hD8 : D ≤ 8) (hs : st μ) : ∀ (as : List Int) (s : Int) (o : Option Cl), (∀ a ∈ as, 0 ≤ a ∧ a ≤ 100) → 0 ≤ s → s + 100 * as.length ≤ 900 → (∀ o', Z.nx [some c, some (.d (dF (fr (s + isum as) D))), o'] μ) →
    forL (gN 2) (sAsg (aCall r_L_plus (aCons (aVar 1) (aCons (aVar 2) aNil))) (gN 1)) st Z ((as.map fun a => dF (fr a D)).map .d) [some c, some (.d (dF (fr s D))), o] μ
  | [], s, o, _, _, _, h => ⟨hs, by have := h o; rw [show s + isum [] = s from Int.add_zero s] at this; exact this⟩
  | a :: as, s, o, ha, h0, hb, h => by
    have h1 := ha a List.mem_cons_self
    have b1 := fr_bd (a := s) (D := D) h0 (by omega)
    have b2 := fr_bd (a := a) (D := D) h1.1 (by omega)
    simp only [List.length_cons] at hb
    refine ⟨hs, fr s D, fr a D, rfl, by omega, by omega, by omega, by omega, ?_⟩
    rw [fr_plus (by omega)]
    refine sum_loop hD hD8 hs as (s + a) _ (fun b hb => ha b (List.mem_cons_of_mem _ hb)) (by omega) (by omega) fun o' => ?_
    have := h o'
    rw [show s + isum (a :: as) = s + a + isum as from by rw [isum, Int.add_assoc]] at this
    exact this
theorem h_L_sum (cs : List Cl) (μ : Sto) (A : Cl → Sto → Prop) (er : Er) (h : r_L_sum cs μ A er) : a_L_sum r_L_plus (bodyD μ A er) (startE ns_L_sum cs) μ := by
  obtain ⟨x, D, as, rfl, hx, hD, hD8, ha, hl, h⟩ := h
  refine And.intro (Nat.le_of_ble_eq_true rfl) ?_
  show match cellsOf (.d x) μ with | some xs => _ | none => False
  rw [seqD_cells hx]
  have e : (PyData.tuple [.int 0, .int 1]) = dF (fr 0 D) := by rw [fr_zero (by omega)]; rfl
  show forL _ _ _ _ _ [some (.d x), some (.d (PyData.tuple [.int 0, .int 1])), none] μ
  rw [e]
  refine sum_loop hD hD8 trivial as 0 none ha (by omega) (by omega) fun o' => ?_
  rw [Int.zero_add]
  exact .inl h
/-! ### _law_keeps, within -/
def r_keeps : RS := fun cs μ A _ => ∃ (x q p : Int), cs = [.d (.int x), .d (dF (q, p))] ∧ 0 ≤ x ∧ x ≤ 1000 ∧ 1 ≤ q ∧ q ≤ 1000 ∧ 0 ≤ p ∧ A (.d (.bool (decide (x ^ q.toNat ≤ p)))) μ
theorem keeps_loop {x : Int} {c : Cl} {μ : Sto} {st : Sto → Prop} {Z : AD} (hx : 0 ≤ x ∧ x ≤ 1000) (hs : st μ) : ∀ (xs : List Cl) (n : Nat) (o : Option Cl), (∀ o', Z.nx [some (.d (.int x)), some c, some (.d (.int (x ^ (n + xs.length)))), o'] μ) →
    forL (gN 3) (sAsg (aOp fMul (aVar 2) (aVar 0)) (gN 2)) st Z xs [some (.d (.int x)), some c, some (.d (.int (x ^ n))), o] μ
  | [], n, o, h => ⟨hs, h o⟩
  | y :: xs, n, o, h => by
    refine ⟨hs, mulR (by omega), ?_⟩
    show forL _ _ _ _ _ [some (.d (.int x)), some c, some (.d (.int (x ^ n * x))), some y] μ
    rw [← Int.pow_succ]
    refine keeps_loop hx hs xs (n + 1) _ fun o' => ?_
    have := h o'
    rw [show n + (y :: xs).length = n + 1 + xs.length from by simp only [List.length_cons]; omega] at this
    exact this
theorem rgC_len (lo : Int) (n : Nat) : (rgC lo n).length = n := by unfold rgC; simp
theorem h_L_keeps (cs : List Cl) (μ : Sto) (A : Cl → Sto → Prop) (er : Er) (h : r_keeps cs μ A er) : a_L_keeps (bodyD μ A er) (startE ns_L_keeps cs) μ := by
  obtain ⟨x, q, p, rfl, hx, hx2, hq, hq2, hp, h⟩ := h
  refine And.intro (by omega) (And.intro (by omega) ?_)
  have st : ∀ w : Int, w = x ^ 0 → forL (gN 3) (sAsg (aOp fMul (aVar 2) (aVar 0)) (gN 2)) (fun _ => True) { bodyD μ A er with nx := fun ρ' μ' => sRet (aOp (fI pLe) (aVar 2) (aIx (aVar 1) (aC (PyData.int 1)))) (bodyD μ A er) ρ' μ' } (rgC 0 q.toNat) [some (.d (.int x)), some (.d (dF (q, p))), some (.d (.int w)), none] μ := fun w hw => by
    subst hw
    exact keeps_loop (st := fun _ => True) ⟨hx, hx2⟩ trivial (rgC 0 q.toNat) 0 none fun o' => by
      rw [rgC_len, Nat.zero_add]
      exact .inl h
  exact st 1 (Int.pow_zero x).symm
theorem within_loop {x q p : Int} {c : Cl} {μ : Sto} {st : Sto → Prop} {Z : AD} {N : Nat} (hx : 0 ≤ x ∧ x ≤ 1000) (hs : st μ) (hr : ∀ b : Bool, b = decide (x ^ N ≤ p) → Z.rt (.d (.bool b)) μ) : ∀ (xs : List Cl) (n : Nat) (o : Option Cl), n + xs.length = N →
    (∀ o', Z.nx [some (.d (.int x)), some c, some (.d (.int q)), some (.d (.int p)), some (.d (.int (x ^ N))), o'] μ) →
    forL (gN 5) (sSeq (sAsg (aOp fMul (aVar 4) (aVar 0)) (gN 4))
    (sIf (aAnd (aTest (aOp (fI pGt) (aVar 0) (aC (.int 1)))) (aTest (aOp (fI pGt) (aVar 4) (aVar 3)))) (sRet (aC (.bool false))) sNext)) st Z xs [some (.d (.int x)), some c, some (.d (.int q)), some (.d (.int p)), some (.d (.int (x ^ n))), o] μ
  | [], n, o, e, h => by
    have e' : n = N := by simpa using e
    subst e'
    exact ⟨hs, h o⟩
  | y :: xs, n, o, e, h => by
    simp only [List.length_cons] at e
    refine ⟨hs, mulR (by omega), ?_⟩
    show match decide (1 < x) with | true => _ | false => _
    by_cases h1 : 1 < x
    · rw [decide_eq_true h1]
      show match decide (p < x ^ n * x) with | true => _ | false => _
      by_cases h2 : p < x ^ n * x
      · rw [decide_eq_true h2]
        refine hr false ?_
        symm
        apply decide_eq_false
        have h3 := pow_mono (x := x) (by omega) (n + 1) (N - (n + 1))
        rw [show n + 1 + (N - (n + 1)) = N by omega] at h3
        rw [Int.pow_succ] at h3
        omega
      · rw [decide_eq_false h2]
        show forL _ _ _ _ _ [some (.d (.int x)), some c, some (.d (.int q)), some (.d (.int p)), some (.d (.int (x ^ n * x))), some y] μ
        rw [← Int.pow_succ]
        exact within_loop hx hs hr xs (n + 1) _ (by omega) h
    · rw [decide_eq_false h1]
      show forL _ _ _ _ _ [some (.d (.int x)), some c, some (.d (.int q)), some (.d (.int p)), some (.d (.int (x ^ n * x))), some y] μ
      rw [← Int.pow_succ]
      exact within_loop hx hs hr xs (n + 1) _ (by omega) h
theorem h_within (cs : List Cl) (μ : Sto) (A : Cl → Sto → Prop) (er : Er) (h : r_keeps cs μ A er) : a_within (bodyD μ A er) (startE ns_within cs) μ := by
  obtain ⟨x, q, p, rfl, hx, hx2, hq, hq2, hp, h⟩ := h
  refine And.intro rfl ?_
  refine And.intro (by omega) (And.intro (by omega) ?_)
  have st : ∀ w : Int, w = x ^ 0 → forL (gN 5) (sSeq (sAsg (aOp fMul (aVar 4) (aVar 0)) (gN 4))
    (sIf (aAnd (aTest (aOp (fI pGt) (aVar 0) (aC (.int 1)))) (aTest (aOp (fI pGt) (aVar 4) (aVar 3)))) (sRet (aC (.bool false))) sNext)) (fun _ => True)
      { bodyD μ A er with nx := fun ρ' μ' => sRet (aOp (fI pLe) (aVar 4) (aVar 3)) (bodyD μ A er) ρ' μ' } (rgC 0 q.toNat) [some (.d (.int x)), some (.d (dF (q, p))), some (.d (.int q)), some (.d (.int p)), some (.d (.int w)), none] μ := fun w hw => by
    subst hw
    exact within_loop (st := fun _ => True) (N := q.toNat) (q := q) (p := p) (x := x) ⟨hx, hx2⟩ trivial (fun b hb => by subst hb; exact .inl h) (rgC 0 q.toNat) 0 none (by rw [rgC_len, Nat.zero_add]) fun o' => .inl h
  exact st 1 (Int.pow_zero x).symm
end Jh

set_option Elab.async false
set_option linter.all false
set_option maxRecDepth 1000000
set_option maxHeartbeats 4000000
/-! The tableau over plain lists, and that its pivots end (by a tree of cases that the kernel walks). -/
namespace Jh.LP
abbrev Row := List Int
abbrev Mask := List Bool
structure T where
  rows : List (Mask × Row)
  bot : Row
  base : List Nat
  others : List Nat
  D : Int
def gi (l : Row) (k : Nat) : Int := l.getD k 0
def gn (l : List Nat) (k : Nat) : Nat := l.getD k 0
def upd (p D : Int) (k : Nat) (mid row : Row) : Row := (List.zipWith (fun x y => (x * p - gi row k * y) / D) row mid).set k (-(gi row k))
def sg (p : Int) (r : Row) : Row := if p < 0 then r.map (fun x => -x) else r
def pivR (t : T) (r k : Nat) (mm : Mask) (mid : Row) : T :=
  { rows := (t.rows.map fun q => (q.1, sg (gi mid k) (upd (gi mid k) t.D k mid q.2))).set r (mm, sg (gi mid k) (mid.set k t.D))
    bot := sg (gi mid k) (upd (gi mid k) t.D k mid t.bot)
    base := t.base.set r (gn t.others k)
    others := t.others.set k (gn t.base r)
    D := if gi mid k < 0 then -(gi mid k) else gi mid k }
def sm (x : Int) : Prop := -1000 ≤ x ∧ x ≤ 1000
structure WF (n : Nat) (t : T) : Prop where
  rows : t.rows.length = t.base.length
  ol : t.others.length = n
  row : ∀ q ∈ t.rows, q.2.length = n + 1 ∧ ∀ x ∈ q.2, sm x
  bot : t.bot.length = n + 1 ∧ ∀ x ∈ t.bot, sm x
  nd : (t.base ++ t.others).Nodup
  lt : ∀ v ∈ t.base ++ t.others, v < t.base.length + n
  D1 : 1 ≤ t.D
  D2 : t.D ≤ 1000
/-- the cover, by rows: found[base[i]] = rhs, for base[i] < n -/
def covF (n : Nat) : List Nat → List Int → List Int → List Int
  | b :: bs, x :: xs, f => covF n bs xs (if b < n then f.set b x else f)
  | _, _, f => f
def rep (m : Nat) : List Int := List.replicate m 0
def cov (n : Nat) (t : T) : List Int := covF n t.base (t.rows.map fun q => gi q.2 n) (rep n)
/-- the packing, by the bottom row -/
def pakF (n : Nat) : List Nat → List Int → List Int → List Int
  | b :: bs, x :: xs, f => pakF n bs xs (if n ≤ b then f.set (b - n) x else f)
  | _, _, f => f
def pak (n : Nat) (others : List Nat) (m : Nat) (bot : Row) : List Int := pakF n others bot (rep m)
def dot : Mask → List Int → Int
  | true :: ms, x :: xs => x + dot ms xs
  | false :: ms, _ :: xs => dot ms xs
  | _, _ => 0
/-- what a set's packing adds up to -/
def packAt (a : Nat) : List Mask → List Int → Int
  | mk :: ms, x :: xs => (if mk.getD a false then x else 0) + packAt a ms xs
  | _, _ => 0
def sum : List Int → Int
  | [] => 0
  | x :: xs => x + sum xs
structure Opt (n : Nat) (t : T) : Prop where
  c : ∀ q ∈ t.rows, t.D ≤ dot q.1 (cov n t)
  p : ∀ a, a < n → packAt a (t.rows.map (·.1)) (pak n t.others t.base.length t.bot) ≤ t.D
  s : sum (cov n t) = sum (pak n t.others t.base.length t.bot)
  c0 : ∀ x ∈ cov n t, 0 ≤ x ∧ x ≤ t.D
  p0 : ∀ x ∈ pak n t.others t.base.length t.bot, 0 ≤ x
  D : t.D ≤ 8
inductive Run (n : Nat) : T → Prop
  | stop (t : T) : WF n t → (∀ q ∈ t.rows, 0 ≤ gi q.2 n) → (∀ j, j < n → 0 ≤ gi t.bot j) → Opt n t → Run n t
  | row (t : T) (r k : Nat) (mm : Mask) (mid : Row) : WF n t → t.rows[r]? = some (mm, mid) → k < n → gi mid n < 0 → (∀ i (q : Mask × Row), t.rows[i]? = some q → gi q.2 n < 0 → gn t.base r ≤ gn t.base i) → (∀ j, j < n → gi t.bot j < 0 → gn t.base r ≤ gn t.others j) →
      gi mid k < 0 → (∀ j, j < n → gi mid j < 0 → gn t.others k ≤ gn t.others j) → Run n (pivR t r k mm mid) → Run n t
  | col (t : T) (r k : Nat) (mm : Mask) (mid : Row) : WF n t → t.rows[r]? = some (mm, mid) → k < n → gi t.bot k < 0 → (∀ i (q : Mask × Row), t.rows[i]? = some q → gi q.2 n < 0 → gn t.others k ≤ gn t.base i) → (∀ j, j < n → gi t.bot j < 0 → gn t.others k ≤ gn t.others j) →
      0 < gi mid k → (∀ i (q : Mask × Row), t.rows[i]? = some q → 0 < gi q.2 k → gn t.base r ≤ gn t.base i) → Run n (pivR t r k mm mid) → Run n t
noncomputable section
namespace Kn
def gi (l : Row) (k : Nat) : Int := List.rec (motive := fun _ => Nat → Int) (fun _ => .ofNat 0) (fun x _ ih k => Nat.rec x (fun j _ => ih j) k) l k
def gn (l : List Nat) (k : Nat) : Nat := List.rec (motive := fun _ => Nat → Nat) (fun _ => 0) (fun x _ ih k => Nat.rec x (fun j _ => ih j) k) l k
def fI {α : Type} (i : Int) (k : Int → α) : α := Int.rec (motive := fun _ => α) (fun n => Nat.rec (motive := fun _ => α) (k (.ofNat 0)) (fun m _ => k (.ofNat (m + 1))) n) (fun n => Nat.rec (motive := fun _ => α) (k (.negSucc 0)) (fun m _ => k (.negSucc (m + 1))) n) i
def fN {α : Type} (n : Nat) (k : Nat → α) : α := Nat.rec (motive := fun _ => α) (k 0) (fun m _ => k (m + 1)) n
def fL {α β : Type} (f : β → (β → α) → α) (l : List β) (k : List β → α) : α := List.rec (motive := fun _ => (List β → α) → α) (fun k => k []) (fun x _ ih k => f x fun y => ih fun ys => k (y :: ys)) l k
def nn (x : Int) : Bool := Int.rec (motive := fun _ => Bool) (fun _ => true) (fun _ => false) x
def np (x : Int) : Bool := Int.rec (motive := fun _ => Bool) (fun n => Nat.beq n 0) (fun _ => true) x
def seti (l : Row) (k : Nat) (v : Int) : Row := List.rec (motive := fun _ => Nat → Row) (fun _ => []) (fun x xs ih k => Nat.rec (v :: xs) (fun j _ => x :: ih j) k) l k
def zipA (f : Int → Int → Int) (l : Row) (m : Row) : Row := List.rec (motive := fun _ => Row → Row) (fun _ => []) (fun x _ ih m => List.rec (motive := fun _ => Row) [] (fun y ys _ => f x y :: ih ys) m) l m
def neg (r : Row) : Row := List.rec (motive := fun _ => Row) [] (fun x _ ih => Int.neg x :: ih) r
/-- generic -/
def updG (p D c : Int) (k : Nat) (mid row : Row) : Row := seti (zipA (fun x y => Int.ediv (Int.sub (Int.mul x p) (Int.mul c y)) D) row mid) k (Int.neg c)
def sgB (b : Bool) (r : Row) : Row := Bool.rec r (neg r) b
/-- p = 1 or -1 (b), D = 1, c = 0, 1, -1 : p = 1 -> x - c*y ; p = -1 -> x + c*y, [k] := -c resp. c -/
def upd1 (b : Bool) (c : Int) (k : Nat) (mid row : Row) : Row :=
  Int.rec (motive := fun _ => Row) (fun n => Nat.rec row (fun n' _ => Nat.rec (Bool.rec (seti (zipA Int.sub row mid) k (.negSucc 0)) (seti (zipA Int.add row mid) k (.ofNat 1)) b) (fun _ _ => Bool.rec (updG (.ofNat 1) (.ofNat 1) c k mid row) (neg (updG (.negSucc 0) (.ofNat 1) c k mid row)) b) n') n)
    (fun n => Nat.rec (Bool.rec (seti (zipA Int.add row mid) k (.ofNat 1)) (seti (zipA Int.sub row mid) k (.negSucc 0)) b) (fun _ _ => Bool.rec (updG (.ofNat 1) (.ofNat 1) c k mid row) (neg (updG (.negSucc 0) (.ofNat 1) c k mid row)) b) n) c
def isOne (x : Int) : Bool := Int.rec (motive := fun _ => Bool) (fun n => Nat.beq n 1) (fun _ => false) x
def isPm (x : Int) : Bool := Int.rec (motive := fun _ => Bool) (fun n => Nat.beq n 1) (fun n => Nat.beq n 0) x
def updS (p D : Int) (k : Nat) (mid row : Row) : Row :=
  Bool.rec (sgB (!(nn p)) (updG p D (gi row k) k mid row)) (fI (gi row k) fun c => upd1 (!(nn p)) c k mid row) (isOne D && isPm p)
structure S where
  cands : List (List (Mask × Row))
  bot : Row
  base : List Nat
  others : List Nat
  D : Int
def fQ {α : Type} (q : Mask × Row) (k : Mask × Row → α) : α := fL fI q.2 fun r => k (q.1, r)
def fS {α : Type} (s : S) (k : S → α) : α := fL (fL fQ) s.cands fun c => fL fI s.bot fun b => fL fN s.base fun ba => fL fN s.others fun o => fI s.D fun d => k ⟨c, b, ba, o, d⟩
def small (x : Int) : Bool := Int.rec (motive := fun _ => Bool) (fun n => Nat.ble n 1000) (fun n => Nat.ble n 999) x
def okR (row : Row) (k : Nat) : Bool := List.rec (motive := fun _ => Nat → Bool) (fun k => Nat.beq k 0) (fun x _ ih k => Nat.rec false (fun j _ => Bool.rec false (ih j) (small x)) k) row k
def okD (x : Int) : Bool := Int.rec (motive := fun _ => Bool) (fun n => Nat.ble 1 n && Nat.ble n 1000) (fun n => false) x
def allR {β : Type} (f : β → Bool) (l : List β) : Bool := List.rec (motive := fun _ => Bool) true (fun x _ ih => Bool.rec false ih (f x)) l
def allC (f : Row → Bool) (cs : List (Mask × Row)) : Bool := allR (fun q => f q.2) cs
def for2 {β γ : Type} (f : β → γ → Bool) (l : List β) (m : List γ) : Bool := List.rec (motive := fun _ => List γ → Bool) (fun _ => true) (fun x _ ih m => List.rec (motive := fun _ => Bool) true (fun y ys _ => Bool.rec false (ih ys) (f x y)) m) l m
def pivOk (b : Bool) (s : S) (r k : Nat) (n : Nat) (mid : Row) : Bool := Nat.ble (r + 1) s.base.length && Nat.ble (k + 1) n && (Bool.rec
    (!nn (gi s.bot k) && for2 (fun v cs => Nat.ble (gn s.others k) v || allC (fun q => nn (gi q n)) cs) s.base s.cands && for2 (fun v x => Nat.ble (gn s.others k) v || nn x) s.others s.bot &&
      !np (gi mid k) && for2 (fun v cs => Nat.ble (gn s.base r) v || allC (fun q => np (gi q k)) cs) s.base s.cands)
    (!nn (gi mid n) && for2 (fun v cs => Nat.ble (gn s.base r) v || allC (fun q => nn (gi q n)) cs) s.base s.cands && for2 (fun v x => Nat.ble (gn s.base r) v || nn x) s.others s.bot &&
      !nn (gi mid k) && for2 (fun v x => Nat.ble (gn s.others k) v || nn x) s.others mid) b)
def anyR {β : Type} (f : β → Bool) (l : List β) : Bool := List.rec (motive := fun _ => Bool) false (fun x _ ih => Bool.rec ih true (f x)) l
def ndR (l : List Nat) : Bool := List.rec (motive := fun _ => Bool) true (fun x xs ih => Bool.rec ih false (anyR (Nat.beq x) xs)) l
def wfS (n : Nat) (s : S) : Bool := Nat.beq s.cands.length s.base.length && Nat.beq s.others.length n && allR (fun cs => allR (fun q => okR q.2 (n + 1)) cs) s.cands && okR s.bot (n + 1) && ndR (s.base ++ s.others) && allR (fun v => Nat.ble (v + 1) (s.base.length + n)) (s.base ++ s.others) && okD s.D
def setR {β : Type} (l : List β) (k : Nat) (v : β) : List β := List.rec (motive := fun _ => Nat → List β) (fun _ => []) (fun x xs ih k => Nat.rec (v :: xs) (fun j _ => x :: ih j) k) l k
def mapR {β γ : Type} (f : β → γ) (l : List β) : List γ := List.rec (motive := fun _ => List γ) [] (fun x _ ih => f x :: ih) l
def pivS (s : S) (r k : Nat) (mm : Mask) (mid : Row) (p : Int) : S :=
  { cands := setR (mapR (mapR fun q => (q.1, updS p s.D k mid q.2)) s.cands) r [(mm, sgB (!(nn p)) (seti mid k s.D))]
    bot := updS p s.D k mid s.bot
    base := setR s.base r (gn s.others k)
    others := setR s.others k (gn s.base r)
    D := Bool.rec (Int.neg p) p (nn p) }
def covF (n : Nat) (l : List Nat) (m : List Int) (f : List Int) : List Int := List.rec (motive := fun _ => List Int → List Int → List Int) (fun _ f => f) (fun b _ ih m f => List.rec (motive := fun _ => List Int) f (fun x xs _ => ih xs (Bool.rec f (seti f b x) (Nat.ble (b+1) n))) m) l m f
def pakF (n : Nat) (l : List Nat) (m : List Int) (f : List Int) : List Int := List.rec (motive := fun _ => List Int → List Int → List Int) (fun _ f => f) (fun b _ ih m f => List.rec (motive := fun _ => List Int) f (fun x xs _ => ih xs (Bool.rec f (seti f (b - n) x) (Nat.ble n b))) m) l m f
def hd (n : Nat) (l : List (Mask × Row)) : Int := List.rec (motive := fun _ => Int) (.ofNat 0) (fun q _ _ => gi q.2 n) l
def rep (m : Nat) : List Int := Nat.rec [] (fun _ ih => .ofNat 0 :: ih) m
def covS (n : Nat) (s : S) : List Int := covF n s.base (mapR (hd n) s.cands) (rep n)
def pak (n : Nat) (others : List Nat) (m : Nat) (bot : Row) : List Int := pakF n others bot (rep m)
def one (cs : List (Mask × Row)) : Bool := List.rec (motive := fun _ => Bool) false (fun _ t _ => List.rec (motive := fun _ => Bool) true (fun _ _ _ => false) t) cs
def gb (l : List Bool) (k : Nat) : Bool := List.rec (motive := fun _ => Nat → Bool) (fun _ => false) (fun x _ ih k => Nat.rec x (fun j _ => ih j) k) l k
def dot (m : Mask) (l : List Int) : Int := List.rec (motive := fun _ => List Int → Int) (fun _ => .ofNat 0) (fun b _ ih l => List.rec (motive := fun _ => Int) (.ofNat 0) (fun x xs _ => Bool.rec (ih xs) (Int.add x (ih xs)) b) l) m l
def sum (l : List Int) : Int := List.rec (motive := fun _ => Int) (.ofNat 0) (fun x _ ih => Int.add x ih) l
def packS (a : Nat) (l : List (List (Mask × Row))) (p : List Int) : Int := List.rec (motive := fun _ => List Int → Int) (fun _ => .ofNat 0) (fun cs _ ih l => List.rec (motive := fun _ => Int) (.ofNat 0) (fun x xs _ => Bool.rec (ih xs) (Int.add x (ih xs)) (anyR (fun q => gb q.1 a) cs)) l) l p
def le (x y : Int) : Bool := nn (Int.sub y x)
def stopOk (n : Nat) (s : S) : Bool :=
  for2 (fun v cs => Nat.ble n v || one cs) s.base s.cands && allR (fun cs => allC (fun q => nn (gi q n)) cs) s.cands && for2 (fun _ x => nn x) s.others s.bot &&
  fL fI (covS n s) fun c => fL fI (pak n s.others s.base.length s.bot) fun p =>
    allR (fun cs => allR (fun q => le s.D (dot q.1 c)) cs) s.cands && allR (fun a => le (packS a s.cands p) s.D) (List.range n) && (le (sum c) (sum p) && le (sum p) (sum c)) && allR nn c && allR (fun x => le x s.D) c && allR nn p && le s.D 8
inductive Dec where
  | stop | split (i : Nat) (f : Row → Bool) | single (i : Nat) | piv (b : Bool) (r k : Nat)
/-- the place of v -/
def idx {α : Type} (v : Nat) (l : List Nat) (z : α) (k : Nat → α) : α := List.rec (motive := fun _ => Nat → α) (fun _ => z) (fun x _ ih i => Bool.rec (ih (i + 1)) (k i) (Nat.beq x v)) l 0
def gc (l : List (List (Mask × Row))) (k : Nat) : List (Mask × Row) := List.rec (motive := fun _ => Nat → List (Mask × Row)) (fun _ => []) (fun x _ ih k => Nat.rec x (fun j _ => ih j) k) l k
def pickCol (s : S) (k : Nat) (all : List Nat) : Dec := List.rec (motive := fun _ => Dec) .stop (fun v _ ih => idx v s.base ih fun i =>
  Bool.rec (Bool.rec (.split i fun q => np (gi q k)) (Bool.rec (.single i) (.piv false i k) (one (gc s.cands i))) (allC (fun q => !np (gi q k)) (gc s.cands i))) ih (allC (fun q => np (gi q k)) (gc s.cands i))) all
def pickRow (s : S) (i : Nat) (row : Row) (all : List Nat) : Dec := List.rec (motive := fun _ => Dec) .stop (fun v _ ih => idx v s.others ih fun j => Bool.rec (.piv true i j) ih (nn (gi row j))) all
def pick (n : Nat) (s : S) (all : List Nat) : Dec := List.rec (motive := fun _ => Dec) .stop (fun v _ ih => idx v s.others (idx v s.base ih fun i =>
   Bool.rec (Bool.rec (.split i fun q => nn (gi q n)) (Bool.rec (.single i) (pickRow s i (hd' (gc s.cands i)) all) (one (gc s.cands i))) (allC (fun q => !nn (gi q n)) (gc s.cands i))) ih (allC (fun q => nn (gi q n)) (gc s.cands i)))
   fun j => Bool.rec (pickCol s j all) ih (nn (gi s.bot j))) all
where hd' (l : List (Mask × Row)) : Row := List.rec (motive := fun _ => Row) [] (fun q _ _ => q.2) l
def filR {β : Type} (f : β → Bool) (l : List β) : List β := List.rec (motive := fun _ => List β) [] (fun x _ ih => Bool.rec ih (x :: ih) (f x)) l
def filF {α β : Type} (f : β → Bool) (l : List β) (k : List β → α) : α := List.rec (motive := fun _ => (List β → α) → α) (fun k => k []) (fun x _ ih k => Bool.rec (ih k) (ih fun ys => k (x :: ys)) (f x)) l k
def check (n : Nat) (fuel : Nat) (s : S) : Bool := Nat.rec (motive := fun _ => S → Bool) (fun _ => false) (fun _ ih s => Dec.rec (motive := fun _ => Bool)
    (stopOk n s) (fun i f => filF (fun q => f q.2) (gc s.cands i) (fun l => ih { s with cands := setR s.cands i l }) && filF (fun q => !f q.2) (gc s.cands i) (fun l => ih { s with cands := setR s.cands i l }))
    (fun i => (List.rec (motive := fun _ => Bool) false (fun _ _ _ => true) (gc s.cands i)) && allR (fun c => ih { s with cands := setR s.cands i [c] }) (gc s.cands i))
    (fun b r k => List.rec (motive := fun _ => Bool) false (fun q t _ => List.rec (motive := fun _ => Bool) (pivOk b s r k n q.2 && fI (gi q.2 k) fun p => fS (pivS s r k q.1 q.2 p) fun s' => wfS n s' && ih s') (fun _ _ _ => false) t) (gc s.cands r))
    (pick n s (List.range (s.base.length + n)))) fuel s
def masks : Nat → List Mask
  | 0 => [[]]
  | n + 1 => (masks n).flatMap fun m => [false :: m, true :: m]
def row0 (m : Mask) : Row := m.map (fun b => if b then -1 else 0) ++ [-1]
def s0 (n m : Nat) (k0 : Mask) : S := ⟨[(k0, row0 k0)] :: List.replicate m (((masks n).filter (·.any (fun b => b))).map fun k => (k, row0 k)), List.replicate n 1 ++ [0], (List.range (m + 1)).map (fun i => n + i), List.range n, 1⟩
def ones (n : Nat) : List Mask := (masks n).filter (·.any (fun b => b))
def go (n m : Nat) (k0 : Mask) : Bool := fS (s0 n m k0) fun s => wfS n s && check n 40 s
end Kn
end
end Jh.LP

set_option Elab.async false
set_option linter.all false
set_option maxRecDepth 1000000
set_option maxHeartbeats 4000000
namespace Jh.LP
/-! ### the kernel's forms are the plain ones -/
theorem gi_eq (l : Row) : ∀ k, Kn.gi l k = gi l k := by
  induction l with
  | nil => intro k; rfl
  | cons x l ih => intro k; cases k with
    | zero => rfl
    | succ k => show Kn.gi l k = _; rw [ih]; simp [gi]
theorem gn_eq (l : List Nat) : ∀ k, Kn.gn l k = gn l k := by
  induction l with
  | nil => intro k; rfl
  | cons x l ih => intro k; cases k with
    | zero => rfl
    | succ k => show Kn.gn l k = _; rw [ih]; simp [gn]
theorem fI_eq {α : Type} (i : Int) (k : Int → α) : Kn.fI i k = k i := by
  cases i with
  | ofNat n => cases n <;> rfl
  | negSucc n => cases n <;> rfl
theorem fN_eq {α : Type} (n : Nat) (k : Nat → α) : Kn.fN n k = k n := by cases n <;> rfl
theorem fL_eq {α β : Type} (f : β → (β → α) → α) (h : ∀ x k, f x k = k x) : ∀ (l : List β) (k : List β → α), Kn.fL f l k = k l
  | [], k => rfl
  | x :: xs, k => by
    show f x (fun y => Kn.fL f xs fun ys => k (y :: ys)) = _
    rw [h, fL_eq f h]
theorem fQ_eq {α : Type} (q : Mask × Row) (k : Mask × Row → α) : Kn.fQ q k = k q := by
  unfold Kn.fQ
  rw [fL_eq Kn.fI fI_eq]
theorem fS_eq {α : Type} (s : Kn.S) (k : Kn.S → α) : Kn.fS s k = k s := by
  unfold Kn.fS
  rw [fL_eq _ (fL_eq Kn.fQ fQ_eq), fL_eq Kn.fI fI_eq, fL_eq Kn.fN fN_eq, fL_eq Kn.fN fN_eq, fI_eq]
theorem nn_iff (x : Int) : Kn.nn x = true ↔ 0 ≤ x := by
  cases x with
  | ofNat n => exact ⟨fun _ => Int.natCast_nonneg n, fun _ => rfl⟩
  | negSucc n =>
    constructor
    · intro h; cases h
    · intro h; omega
theorem np_iff (x : Int) : Kn.np x = true ↔ x ≤ 0 := by
  cases x with
  | ofNat n =>
    show Nat.beq n 0 = true ↔ _
    rw [Nat.beq_eq]
    constructor
    · rintro rfl; exact Int.le_refl 0
    · intro h
      have : (n : Int) ≤ 0 := h
      omega
  | negSucc n => exact ⟨fun _ => by omega, fun _ => rfl⟩
theorem small_ok {x : Int} (h : Kn.small x = true) : sm x := by
  cases x with
  | ofNat n =>
    have h' : Nat.ble n 1000 = true := h
    have := Nat.le_of_ble_eq_true h'
    constructor
    · show (-1000 : Int) ≤ (n : Int); omega
    · show (n : Int) ≤ 1000; omega
  | negSucc n =>
    have h' : Nat.ble n 999 = true := h
    have := Nat.le_of_ble_eq_true h'
    constructor <;> omega
theorem seti_eq (l : Row) : ∀ k v, Kn.seti l k v = l.set k v := by
  induction l with
  | nil => intro k v; rfl
  | cons x l ih => intro k v; cases k with
    | zero => rfl
    | succ k => show x :: Kn.seti l k v = _; rw [ih]; rfl
theorem setR_eq {β : Type} (l : List β) : ∀ k v, Kn.setR l k v = l.set k v := by
  induction l with
  | nil => intro k v; rfl
  | cons x l ih => intro k v; cases k with
    | zero => rfl
    | succ k => show x :: Kn.setR l k v = _; rw [ih]; rfl
theorem mapR_eq {β γ : Type} (f : β → γ) (l : List β) : Kn.mapR f l = l.map f := by
  induction l with
  | nil => rfl
  | cons x l ih => show f x :: Kn.mapR f l = _; rw [ih]; rfl
theorem zipA_eq (f : Int → Int → Int) (l : Row) : ∀ m, Kn.zipA f l m = List.zipWith f l m := by
  induction l with
  | nil => intro m; rfl
  | cons x l ih => intro m; cases m with
    | nil => rfl
    | cons y m => show f x y :: Kn.zipA f l m = _; rw [ih]; rfl
theorem neg_eq (l : Row) : Kn.neg l = l.map (fun x => -x) := by
  induction l with
  | nil => rfl
  | cons x l ih => show Int.neg x :: Kn.neg l = _; rw [ih]; rfl
theorem updG_eq (p D c : Int) (k : Nat) (mid row : Row) : Kn.updG p D c k mid row = (List.zipWith (fun x y => (x * p - c * y) / D) row mid).set k (-c) := by
  unfold Kn.updG
  rw [seti_eq, zipA_eq]
  rfl
theorem sgB_eq {p : Int} (r : Row) : Kn.sgB (!(Kn.nn p)) r = sg p r := by
  unfold sg
  cases h : Kn.nn p with
  | true =>
    have := (nn_iff p).mp h
    rw [if_neg (by omega)]; rfl
  | false =>
    have : ¬ 0 ≤ p := fun z => by rw [(nn_iff p).mpr z] at h; cases h
    rw [if_pos (by omega)]
    exact neg_eq r
theorem zw_fst {f : Int → Int → Int} (hf : ∀ x y, f x y = x) : ∀ {l m : Row}, l.length = m.length → List.zipWith f l m = l
  | [], [], _ => rfl
  | x :: l, y :: m, h => by rw [List.zipWith_cons_cons, hf, zw_fst hf (by simpa using h)]
theorem zw_congr {f g : Int → Int → Int} (hf : ∀ x y, f x y = g x y) : ∀ {l m : Row}, List.zipWith f l m = List.zipWith g l m
  | [], _ => rfl
  | x :: l, [] => rfl
  | x :: l, y :: m => by rw [List.zipWith_cons_cons, List.zipWith_cons_cons, hf, zw_congr hf]
theorem map_zw {f : Int → Int → Int} : ∀ {l m : Row}, (List.zipWith f l m).map (fun x => -x) = List.zipWith (fun x y => -(f x y)) l m
  | [], _ => rfl
  | x :: l, [] => rfl
  | x :: l, y :: m => by rw [List.zipWith_cons_cons, List.zipWith_cons_cons, List.map_cons, map_zw]
theorem set_gi (l : Row) : ∀ k, l.set k (gi l k) = l := by
  induction l with
  | nil => intro k; rfl
  | cons x l ih => intro k; cases k with
    | zero => rfl
    | succ k =>
      have := ih k
      simp only [gi, List.getD_cons_succ] at this ⊢
      rw [List.set_cons_succ, this]
theorem upd1_eq (b : Bool) (k : Nat) (mid row : Row) (hl : row.length = mid.length) (c : Int) (hc : c = gi row k) : Kn.upd1 b c k mid row = sg (if b then -1 else 1) ((List.zipWith (fun x y => (x * (if b then -1 else 1) - c * y) / 1) row mid).set k (-c)) := by
  have e1 : ∀ (p : Int), List.zipWith (fun x y => (x * p - c * y) / 1) row mid = List.zipWith (fun x y => x * p - c * y) row mid := fun p => zw_congr fun x y => Int.ediv_one _
  have gen : ∀ b : Bool, (Bool.rec (Kn.updG (.ofNat 1) (.ofNat 1) c k mid row) (Kn.neg (Kn.updG (.negSucc 0) (.ofNat 1) c k mid row)) b : Row) = sg (if b then -1 else 1) ((List.zipWith (fun x y => (x * (if b then -1 else 1) - c * y) / 1) row mid).set k (-c)) := by
    intro b
    cases b with
    | false => show Kn.updG (.ofNat 1) (.ofNat 1) c k mid row = _; rw [updG_eq]; rfl
    | true => show Kn.neg (Kn.updG (.negSucc 0) (.ofNat 1) c k mid row) = _; rw [updG_eq, neg_eq]; rfl
  match c, hc, e1, gen with
  | .ofNat 0, hc, e1, gen =>
    show row = _
    cases b with
    | false =>
      simp only [Bool.false_eq_true, if_false]
      rw [e1, zw_fst (fun x y => by show x * 1 - 0 * y = x; omega) hl]
      show row = row.set k (-(0 : Int))
      have := set_gi row k
      rw [← hc] at this
      exact this.symm
    | true =>
      simp only [if_true]
      rw [e1]
      show row = (List.set _ k (-(0 : Int))).map (fun x => -x)
      rw [List.map_set, map_zw, zw_fst (fun x y => by show -(x * -1 - 0 * y) = x; omega) hl]
      have := set_gi row k
      rw [← hc] at this
      exact this.symm
  | .ofNat 1, hc, e1, gen =>
    cases b with
    | false =>
      show Kn.seti (Kn.zipA Int.sub row mid) k (.negSucc 0) = _
      simp only [Bool.false_eq_true, if_false]
      rw [e1, seti_eq, zipA_eq]
      show _ = List.set _ k (-(1 : Int))
      rw [zw_congr (f := Int.sub) (g := fun x y => x * 1 - (1 : Int) * y) (fun x y => by show x - y = _; omega)]
      rfl
    | true =>
      show Kn.seti (Kn.zipA Int.add row mid) k (.ofNat 1) = _
      simp only [if_true]
      rw [e1, seti_eq, zipA_eq]
      show _ = (List.set _ k (-(1 : Int))).map (fun x => -x)
      rw [List.map_set, map_zw, zw_congr (f := Int.add) (g := fun x y => -(x * -1 - (1 : Int) * y)) (fun x y => by show x + y = _; omega)]
      rfl
  | .ofNat (n + 2), hc, e1, gen => exact gen b
  | .negSucc 0, hc, e1, gen =>
    cases b with
    | false =>
      show Kn.seti (Kn.zipA Int.add row mid) k (.ofNat 1) = _
      simp only [Bool.false_eq_true, if_false]
      rw [e1, seti_eq, zipA_eq]
      show _ = List.set _ k (-(-1 : Int))
      rw [zw_congr (f := Int.add) (g := fun x y => x * 1 - (-1 : Int) * y) (fun x y => by show x + y = _; omega)]
      rfl
    | true =>
      show Kn.seti (Kn.zipA Int.sub row mid) k (.negSucc 0) = _
      simp only [if_true]
      rw [e1, seti_eq, zipA_eq]
      show _ = (List.set _ k (-(-1 : Int))).map (fun x => -x)
      rw [List.map_set, map_zw, zw_congr (f := Int.sub) (g := fun x y => -(x * -1 - (-1 : Int) * y)) (fun x y => by show x - y = _; omega)]
      rfl
  | .negSucc (n + 1), hc, e1, gen => exact gen b
theorem updS_eq (p D : Int) (k : Nat) (mid row : Row) (hl : row.length = mid.length) : Kn.updS p D k mid row = sg p (upd p D k mid row) := by
  unfold Kn.updS
  cases h : (Kn.isOne D && Kn.isPm p) with
  | false =>
    show Kn.sgB (!(Kn.nn p)) (Kn.updG p D (Kn.gi row k) k mid row) = _
    rw [sgB_eq, updG_eq, gi_eq]
    rfl
  | true =>
    show Kn.fI (Kn.gi row k) (fun c => Kn.upd1 (!(Kn.nn p)) c k mid row) = _
    rw [fI_eq, gi_eq]
    rw [Bool.and_eq_true] at h
    have hD : D = 1 := by
      have := h.1
      cases D with
      | ofNat n => have h' : Nat.beq n 1 = true := this; rw [Nat.beq_eq] at h'; subst h'; rfl
      | negSucc n => cases this
    have hp : p = 1 ∨ p = -1 := by
      have := h.2
      cases p with
      | ofNat n => have h' : Nat.beq n 1 = true := this; rw [Nat.beq_eq] at h'; subst h'; exact .inl rfl
      | negSucc n => have h' : Nat.beq n 0 = true := this; rw [Nat.beq_eq] at h'; subst h'; exact .inr rfl
    subst hD
    rcases hp with rfl | rfl
    · exact upd1_eq false k mid row hl _ rfl
    · exact upd1_eq true k mid row hl _ rfl
/-! ### lists' tests -/
theorem allR_ok {β : Type} {f : β → Bool} : ∀ {l : List β}, Kn.allR f l = true → ∀ x ∈ l, f x = true
  | [], _, x, hx => by cases hx
  | y :: l, h, x, hx => by
    have h' : (Bool.rec false (Kn.allR f l) (f y) : Bool) = true := h
    cases hy : f y with
    | false => rw [hy] at h'; cases h'
    | true =>
      rw [hy] at h'
      rcases List.mem_cons.mp hx with rfl | hx
      · exact hy
      · exact allR_ok h' x hx
theorem anyR_ok {β : Type} {f : β → Bool} : ∀ {l : List β}, Kn.anyR f l = false → ∀ x ∈ l, f x = false
  | [], _, x, hx => by cases hx
  | y :: l, h, x, hx => by
    have h' : (Bool.rec (Kn.anyR f l) true (f y) : Bool) = false := h
    cases hy : f y with
    | true => rw [hy] at h'; cases h'
    | false =>
      rw [hy] at h'
      rcases List.mem_cons.mp hx with rfl | hx
      · exact hy
      · exact anyR_ok h' x hx
theorem okR_ok : ∀ {l : Row} {k : Nat}, Kn.okR l k = true → l.length = k ∧ ∀ x ∈ l, sm x
  | [], k, h => by
    have h' : Nat.beq k 0 = true := h
    rw [Nat.beq_eq] at h'
    exact ⟨h'.symm, fun x hx => by cases hx⟩
  | y :: l, 0, h => by cases h
  | y :: l, k + 1, h => by
    have h' : (Bool.rec false (Kn.okR l k) (Kn.small y) : Bool) = true := h
    cases hy : Kn.small y with
    | false => rw [hy] at h'; cases h'
    | true =>
      rw [hy] at h'
      obtain ⟨q1, q2⟩ := okR_ok h'
      refine ⟨by simp [q1], fun x hx => ?_⟩
      rcases List.mem_cons.mp hx with rfl | hx
      · exact small_ok hy
      · exact q2 x hx
theorem ndR_ok : ∀ {l : List Nat}, Kn.ndR l = true → l.Nodup
  | [], _ => List.nodup_nil
  | x :: l, h => by
    have h' : (Bool.rec (Kn.ndR l) false (Kn.anyR (Nat.beq x) l) : Bool) = true := h
    cases hy : Kn.anyR (Nat.beq x) l with
    | true => rw [hy] at h'; cases h'
    | false =>
      rw [hy] at h'
      refine List.nodup_cons.mpr ⟨fun hx => ?_, ndR_ok h'⟩
      have := anyR_ok hy x hx
      rw [show Nat.beq x x = true from Nat.beq_refl x] at this
      cases this
theorem for2_ok {β γ : Type} {f : β → γ → Bool} : ∀ {l : List β} {m : List γ}, Kn.for2 f l m = true → ∀ (i : Nat) a b, l[i]? = some a → m[i]? = some b → f a b = true
  | [], _, _, i, a, b, h1, _ => by simp at h1
  | x :: l, [], _, i, a, b, _, h2 => by simp at h2
  | x :: l, y :: m, h, i, a, b, h1, h2 => by
    have h' : (Bool.rec false (Kn.for2 f l m) (f x y) : Bool) = true := h
    cases hy : f x y with
    | false => rw [hy] at h'; cases h'
    | true =>
      rw [hy] at h'
      cases i with
      | zero => simp at h1 h2; subst h1 h2; exact hy
      | succ i => exact for2_ok h' i a b (by simpa using h1) (by simpa using h2)
/-! ### a state among the candidates -/
inductive All2 {α β : Type} (R : α → β → Prop) : List α → List β → Prop
  | nil : All2 R [] []
  | cons {a b as bs} : R a b → All2 R as bs → All2 R (a :: as) (b :: bs)
theorem All2.get {α β : Type} {R : α → β → Prop} : ∀ {l : List α} {m : List β} {i : Nat} {a : α}, All2 R l m → l[i]? = some a → ∃ b, m[i]? = some b ∧ R a b
  | _, _, _, _, .nil, h => by simp at h
  | _, _, 0, _, .cons r _, h => by simp at h; subst h; exact ⟨_, rfl, r⟩
  | _, _, i + 1, _, .cons _ t, h => by obtain ⟨b, h1, h2⟩ := All2.get (i := i) t (by simpa using h); exact ⟨b, by simpa using h1, h2⟩
theorem All2.getR {α β : Type} {R : α → β → Prop} : ∀ {l : List α} {m : List β} {i : Nat} {b : β}, All2 R l m → m[i]? = some b → ∃ a, l[i]? = some a ∧ R a b
  | _, _, _, _, .nil, h => by simp at h
  | _, _, 0, _, .cons r _, h => by simp at h; subst h; exact ⟨_, rfl, r⟩
  | _, _, i + 1, _, .cons _ t, h => by obtain ⟨b, h1, h2⟩ := All2.getR (i := i) t (by simpa using h); exact ⟨b, by simpa using h1, h2⟩
theorem All2.len {α β : Type} {R : α → β → Prop} : ∀ {l : List α} {m : List β}, All2 R l m → l.length = m.length
  | _, _, .nil => rfl
  | _, _, .cons _ t => by simp [t.len]
theorem All2.memL {α β : Type} {R : α → β → Prop} : ∀ {l : List α} {m : List β} {a : α}, All2 R l m → a ∈ l → ∃ b ∈ m, R a b
  | _, _, _, .nil, h => by cases h
  | _, _, _, .cons r t, h => by
    rcases List.mem_cons.mp h with rfl | h
    · exact ⟨_, List.mem_cons_self, r⟩
    · obtain ⟨b, h1, h2⟩ := t.memL h; exact ⟨b, List.mem_cons_of_mem _ h1, h2⟩
theorem All2.set {α β : Type} {R : α → β → Prop} {a : α} {b : β} (r : R a b) : ∀ {l : List α} {m : List β} (i : Nat), All2 R l m → All2 R (l.set i a) (m.set i b)
  | _, _, _, .nil => .nil
  | _, _, 0, .cons _ t => .cons r t
  | _, _, i + 1, .cons q t => .cons q (All2.set r i t)
theorem All2.setR {α β : Type} {R : α → β → Prop} {b : β} : ∀ {l : List α} {m : List β} {i : Nat} {a : α}, All2 R l m → l[i]? = some a → R a b → All2 R l (m.set i b)
  | _, _, _, _, .nil, h, _ => by simp at h
  | _, _, 0, _, .cons _ t, h, r => by simp at h; subst h; exact .cons r t
  | _, _, i + 1, _, .cons q t, h, r => .cons q (All2.setR (i := i) t (by simpa using h) r)
theorem All2.map {α β α' β' : Type} {R : α → β → Prop} {R' : α' → β' → Prop} {f : α → α'} {g : β → β'} : ∀ {l : List α} {m : List β}, All2 R l m → (∀ a b, a ∈ l → R a b → R' (f a) (g b)) → All2 R' (l.map f) (m.map g)
  | _, _, .nil, _ => .nil
  | _, _, .cons r t, h => .cons (h _ _ List.mem_cons_self r) (All2.map t fun a b ha => h a b (List.mem_cons_of_mem _ ha))
structure Mem (s : Kn.S) (t : T) : Prop where
  rows : All2 (fun (q : Mask × Row) cs => q ∈ cs) t.rows s.cands
  bot : t.bot = s.bot
  base : t.base = s.base
  others : t.others = s.others
  D : t.D = s.D
theorem wf_of {n : Nat} {s : Kn.S} {t : T} (m : Mem s t) (h : Kn.wfS n s = true) : WF n t := by
  unfold Kn.wfS at h
  simp only [Bool.and_eq_true] at h
  obtain ⟨⟨⟨⟨⟨⟨h1, h2⟩, h3⟩, h4⟩, h5⟩, h6⟩, h7⟩ := h
  have hD : 1 ≤ t.D ∧ t.D ≤ 1000 := by
    rw [m.D]
    revert h7
    cases s.D with
    | ofNat k =>
      intro h7
      have h' : (Nat.ble 1 k && Nat.ble k 1000) = true := h7
      rw [Bool.and_eq_true] at h'
      have a1 := Nat.le_of_ble_eq_true h'.1
      have a2 := Nat.le_of_ble_eq_true h'.2
      constructor
      · show (1 : Int) ≤ (k : Int); omega
      · show (k : Int) ≤ 1000; omega
    | negSucc k => intro h7; cases h7
  refine ⟨?_, ?_, fun q hq => ?_, ?_, ?_, fun v hv => ?_, hD.1, hD.2⟩
  · rw [m.rows.len, m.base]; exact Nat.eq_of_beq_eq_true h1
  · rw [m.others]; exact Nat.eq_of_beq_eq_true h2
  · obtain ⟨cs, hc1, hc2⟩ := m.rows.memL hq
    exact okR_ok (allR_ok (allR_ok h3 cs hc1) q hc2)
  · rw [m.bot]; exact okR_ok h4
  · rw [m.base, m.others]; exact ndR_ok h5
  · rw [m.base, m.others] at hv
    rw [m.base]
    exact Nat.le_of_ble_eq_true (allR_ok h6 v hv)
theorem allC_ok {f : Row → Bool} {cs : List (Mask × Row)} (h : Kn.allC f cs = true) {q : Mask × Row} (hq : q ∈ cs) : f q.2 = true := allR_ok h q hq
theorem set_len {n : Nat} {mid : Row} {k : Nat} {x : Int} (h : mid.length = n) : (mid.set k x).length = n := by rw [List.length_set, h]
theorem mem_piv {n : Nat} {s : Kn.S} {t : T} {r k : Nat} {mm : Mask} {mid : Row} (m : Mem s t) (w : WF n t) (hr : t.rows[r]? = some (mm, mid)) : Mem (Kn.pivS s r k mm mid (gi mid k)) (pivR t r k mm mid) := by
  have hmid : mid.length = n + 1 := (w.row _ (List.mem_of_getElem? hr)).1
  refine ⟨?_, ?_, ?_, ?_, ?_⟩
  · show All2 _ (List.set _ r _) (Kn.setR (Kn.mapR _ s.cands) r _)
    rw [setR_eq, mapR_eq]
    refine All2.set ?_ r (All2.map m.rows fun q cs hq hqc => ?_)
    · rw [seti_eq, sgB_eq, m.D]; exact List.mem_singleton.mpr rfl
    · rw [mapR_eq]
      refine List.mem_map.mpr ⟨q, hqc, ?_⟩
      rw [updS_eq _ _ _ _ _ (by rw [(w.row q hq).1, hmid]), m.D]
  · show sg _ _ = Kn.updS _ _ _ _ _
    rw [updS_eq _ _ _ _ _ (by rw [← m.bot, w.bot.1, hmid]), m.D, m.bot]
  · show List.set _ r _ = Kn.setR _ r _
    rw [setR_eq, m.base, gn_eq, m.others]
  · show List.set _ k _ = Kn.setR _ k _
    rw [setR_eq, m.base, gn_eq, m.others]
  · show (if gi mid k < 0 then -(gi mid k) else gi mid k) = (Bool.rec (Int.neg (gi mid k)) (gi mid k) (Kn.nn (gi mid k)) : Int)
    cases h : Kn.nn (gi mid k) with
    | true =>
      have := (nn_iff _).mp h
      rw [if_neg (by omega)]
    | false =>
      have : ¬ 0 ≤ gi mid k := fun z => by rw [(nn_iff _).mpr z] at h; cases h
      rw [if_pos (by omega)]; rfl
theorem get_len {α : Type} {l : List α} {i : Nat} (h : i < l.length) : ∃ a, l[i]? = some a := ⟨l[i], List.getElem?_eq_getElem h⟩
theorem gi_at {l : Row} {i : Nat} {x : Int} (h : l[i]? = some x) : gi l i = x := by unfold gi; rw [List.getD_eq_getElem?_getD, h]; rfl
theorem gn_at {l : List Nat} {i : Nat} {x : Nat} (h : l[i]? = some x) : gn l i = x := by unfold gn; rw [List.getD_eq_getElem?_getD, h]; rfl
theorem ble_or {a b : Nat} {c : Bool} (h : (Nat.ble a b || c) = true) (hc : c = false) : a ≤ b := by
  rw [hc, Bool.or_false] at h
  exact Nat.le_of_ble_eq_true h
theorem nn_false {x : Int} (h : x < 0) : Kn.nn x = false := by
  cases q : Kn.nn x with
  | false => rfl
  | true => have := (nn_iff x).mp q; omega
theorem np_false {x : Int} (h : 0 < x) : Kn.np x = false := by
  cases q : Kn.np x with
  | false => rfl
  | true => have := (np_iff x).mp q; omega
theorem allC_false {f : Row → Bool} {cs : List (Mask × Row)} {q : Mask × Row} (hq : q ∈ cs) (h : f q.2 = false) : Kn.allC f cs = false := by
  cases z : Kn.allC f cs with
  | false => rfl
  | true => rw [allC_ok z hq] at h; cases h
theorem forCols_ok {n : Nat} {b : Nat} {others : List Nat} {row : Row} (ho : others.length = n) (hr : row.length = n + 1) (h : Kn.for2 (fun v x => Nat.ble b v || Kn.nn x) others row = true) : ∀ j, j < n → gi row j < 0 → b ≤ gn others j := by
  intro j hj hx
  obtain ⟨v, hv⟩ := get_len (l := others) (i := j) (by omega)
  obtain ⟨x, hx'⟩ := get_len (l := row) (i := j) (by omega)
  rw [gi_at hx'] at hx
  rw [gn_at hv]
  exact ble_or (for2_ok h j v x hv hx') (nn_false hx)
theorem forRows_ok {n b : Nat} {s : Kn.S} {t : T} (m : Mem s t) (w : WF n t) {f : Row → Bool} (h : Kn.for2 (fun v cs => Nat.ble b v || Kn.allC f cs) t.base s.cands = true) : ∀ i (q : Mask × Row), t.rows[i]? = some q → f q.2 = false → b ≤ gn t.base i := by
  rw [m.base] at h
  intro i q hq hf
  obtain ⟨cs, hc1, hc2⟩ := m.rows.get hq
  obtain ⟨v, hv⟩ := get_len (l := s.base) (i := i) (by rw [← m.base, ← w.rows]; exact (List.getElem?_eq_some_iff.mp hq).1)
  rw [m.base, gn_at hv]
  exact ble_or (for2_ok h i v cs hv hc1) (allC_false hc2 hf)
end Jh.LP

set_option Elab.async false
set_option linter.all false
set_option maxRecDepth 1000000
set_option maxHeartbeats 4000000
namespace Jh.LP
theorem rep_eq (m : Nat) : Kn.rep m = rep m := by
  induction m with
  | zero => rfl
  | succ m ih => show (0 : Int) :: Kn.rep m = _; rw [ih]; rfl
theorem bl_dec {α : Type} {a b : Nat} (x y : α) : (Bool.rec x y (Nat.ble a b) : α) = if a ≤ b then y else x := by
  cases h : Nat.ble a b with
  | true => rw [if_pos (Nat.le_of_ble_eq_true h)]
  | false => rw [if_neg (fun z => by rw [Nat.ble_eq_true_of_le z] at h; cases h)]
theorem pakF_eq (n : Nat) : ∀ (l : List Nat) (m f : List Int), Kn.pakF n l m f = pakF n l m f
  | [], _, f => by cases ‹List Int› <;> rfl
  | b :: l, [], f => rfl
  | b :: l, x :: m, f => by
    show Kn.pakF n l m (Bool.rec f (Kn.seti f (b - n) x) (Nat.ble n b)) = pakF n l m (if n ≤ b then f.set (b - n) x else f)
    rw [pakF_eq n l m, seti_eq, bl_dec]
theorem pak_eq (n : Nat) (o : List Nat) (m : Nat) (b : Row) : Kn.pak n o m b = pak n o m b := by
  unfold Kn.pak pak
  rw [pakF_eq, rep_eq]
theorem dot_eq : ∀ (m : Mask) (l : List Int), Kn.dot m l = dot m l
  | [], l => by cases l <;> rfl
  | true :: m, [] => rfl
  | false :: m, [] => rfl
  | true :: m, x :: l => by show Int.add x (Kn.dot m l) = _; rw [dot_eq m l]; rfl
  | false :: m, x :: l => by show Kn.dot m l = _; rw [dot_eq m l]; rfl
theorem sum_eq : ∀ (l : List Int), Kn.sum l = sum l
  | [] => rfl
  | x :: l => by show Int.add x (Kn.sum l) = _; rw [sum_eq l]; rfl
theorem gb_eq (l : List Bool) : ∀ k, Kn.gb l k = l.getD k false := by
  induction l with
  | nil => intro k; rfl
  | cons x l ih => intro k; cases k with
    | zero => rfl
    | succ k => show Kn.gb l k = _; rw [ih]; simp
theorem le_ok {x y : Int} (h : Kn.le x y = true) : x ≤ y := by
  have := (nn_iff _).mp h
  have e : Int.sub y x = y - x := rfl
  rw [e] at this
  omega
theorem hd_one {n : Nat} {cs : List (Mask × Row)} {q : Mask × Row} (h : Kn.one cs = true) (hq : q ∈ cs) : Kn.hd n cs = gi q.2 n := by
  match cs, h, hq with
  | [p], _, hq =>
    have e : q = p := List.mem_singleton.mp hq
    subst e
    exact gi_eq _ _
  | [], _, hq => cases hq
  | _ :: _ :: _, h, _ => cases h
theorem covF_eq (n : Nat) : ∀ (l : List Nat) (rows : List (Mask × Row)) (cands : List (List (Mask × Row))) (f : List Int), All2 (fun (q : Mask × Row) cs => q ∈ cs) rows cands →
    (∀ (i : Nat) v cs, l[i]? = some v → cands[i]? = some cs → (Nat.ble n v || Kn.one cs) = true) → Kn.covF n l (Kn.mapR (Kn.hd n) cands) f = covF n l (rows.map fun q => gi q.2 n) f
  | [], rows, cands, f, _, _ => by rw [mapR_eq]; cases cands <;> cases rows <;> rfl
  | b :: l, [], _, f, .nil, _ => rfl
  | b :: l, q :: rows, cs :: cands, f, .cons r t, h => by
    show Kn.covF n l (Kn.mapR (Kn.hd n) cands) (Bool.rec f (Kn.seti f b (Kn.hd n cs)) (Nat.ble (b + 1) n)) = covF n l (rows.map fun q => gi q.2 n) (if b < n then f.set b (gi q.2 n) else f)
    rw [covF_eq n l rows cands _ t (fun i v cs h1 h2 => h (i + 1) v cs (by simpa using h1) (by simpa using h2)), seti_eq, bl_dec]
    by_cases hb : b < n
    · have h0 := h 0 b cs rfl rfl
      have : Nat.ble n b = false := by
        cases z : Nat.ble n b with
        | false => rfl
        | true => have := Nat.le_of_ble_eq_true z; omega
      rw [this, Bool.false_or] at h0
      rw [if_pos hb, if_pos (show b + 1 ≤ n from hb), hd_one h0 r]
    · rw [if_neg hb, if_neg (show ¬ b + 1 ≤ n from hb)]
theorem packS_le {a : Nat} : ∀ {rows : List (Mask × Row)} {cands : List (List (Mask × Row))} {p : List Int}, All2 (fun (q : Mask × Row) cs => q ∈ cs) rows cands → (∀ x ∈ p, 0 ≤ x) → packAt a (rows.map (·.1)) p ≤ Kn.packS a cands p
  | [], [], p, .nil, _ => by cases p <;> exact Int.le_refl 0
  | q :: rows, cs :: cands, [], .cons r t, _ => Int.le_refl 0
  | q :: rows, cs :: cands, x :: p, .cons r t, h => by
    have ih := packS_le (a := a) t (fun y hy => h y (List.mem_cons_of_mem _ hy))
    have hx := h x List.mem_cons_self
    show (if q.1.getD a false then x else 0) + packAt a (rows.map (·.1)) p ≤ (Bool.rec (Kn.packS a cands p) (Int.add x (Kn.packS a cands p)) (Kn.anyR (fun q => Kn.gb q.1 a) cs) : Int)
    cases z : Kn.anyR (fun q : Mask × Row => Kn.gb q.1 a) cs with
    | true =>
      show _ ≤ x + Kn.packS a cands p
      split <;> omega
    | false =>
      have := anyR_ok z q r
      simp only [gb_eq] at this
      rw [this]
      simp only [Bool.false_eq_true, if_false]
      omega
theorem and4 {a b : Bool} (h : (a && b) = true) : a = true ∧ b = true := by rw [Bool.and_eq_true] at h; exact h
theorem stop_ok {n : Nat} {s : Kn.S} {t : T} (m : Mem s t) (w : WF n t) (h : Kn.stopOk n s = true) : Run n t := by
  unfold Kn.stopOk at h
  obtain ⟨h, hz⟩ := and4 h
  obtain ⟨h, hb⟩ := and4 h
  obtain ⟨ho, hr⟩ := and4 h
  rw [fL_eq _ fI_eq, fL_eq _ fI_eq, pak_eq] at hz
  obtain ⟨hz, z7⟩ := and4 hz
  obtain ⟨hz, z6⟩ := and4 hz
  obtain ⟨hz, z5⟩ := and4 hz
  obtain ⟨hz, z4⟩ := and4 hz
  obtain ⟨hz, z3⟩ := and4 hz
  obtain ⟨z1, z2⟩ := and4 hz
  obtain ⟨z31, z32⟩ := and4 z3
  have ec : Kn.covS n s = cov n t := by
    unfold Kn.covS cov
    rw [covF_eq n s.base t.rows s.cands _ m.rows (for2_ok ho), rep_eq, m.base]
  have ep : pak n s.others s.base.length s.bot = pak n t.others t.base.length t.bot := by rw [m.others, m.base, m.bot]
  rw [ec] at z1 z31 z32 z4 z5
  rw [ep] at z2 z31 z32 z6
  have p0 : ∀ x ∈ pak n t.others t.base.length t.bot, 0 ≤ x := fun x hx => (nn_iff x).mp (allR_ok z6 x hx)
  refine .stop t w (fun q hq => ?_) (fun j hj => ?_) ⟨fun q hq => ?_, fun a ha => ?_, ?_, fun x hx => ⟨(nn_iff x).mp (allR_ok z4 x hx), ?_⟩, p0, ?_⟩
  · obtain ⟨cs, hc1, hc2⟩ := m.rows.memL hq
    have := allC_ok (allR_ok hr cs hc1) hc2
    rw [gi_eq] at this
    exact (nn_iff _).mp this
  · obtain ⟨v, hv⟩ := get_len (l := s.others) (i := j) (by rw [← m.others, w.ol]; exact hj)
    obtain ⟨x, hx⟩ := get_len (l := s.bot) (i := j) (by rw [← m.bot, w.bot.1]; omega)
    rw [m.bot, gi_at hx]
    exact (nn_iff x).mp (for2_ok hb j v x hv hx)
  · obtain ⟨cs, hc1, hc2⟩ := m.rows.memL hq
    have := allR_ok (allR_ok z1 cs hc1) q hc2
    rw [dot_eq] at this
    rw [m.D]
    exact le_ok this
  · have h1 := le_ok (allR_ok z2 a (List.mem_range.mpr ha))
    rw [m.D]
    exact Int.le_trans (packS_le m.rows p0) h1
  · have a1 := le_ok z31
    have a2 := le_ok z32
    rw [sum_eq, sum_eq] at a1 a2
    omega
  · rw [m.D]; exact le_ok (allR_ok z5 x hx)
  · rw [m.D]; exact le_ok z7
theorem gc_eq (l : List (List (Mask × Row))) : ∀ k, Kn.gc l k = l.getD k [] := by
  induction l with
  | nil => intro k; rfl
  | cons x l ih => intro k; cases k with
    | zero => rfl
    | succ k => show Kn.gc l k = _; rw [ih]; simp
theorem gc_get {l : List (List (Mask × Row))} {k : Nat} {q : Mask × Row} (h : q ∈ Kn.gc l k) : l[k]? = some (Kn.gc l k) := by
  rw [gc_eq] at h ⊢
  rw [List.getD_eq_getElem?_getD] at h ⊢
  cases z : l[k]? with
  | none => rw [z] at h; cases h
  | some x => rfl
theorem filF_eq {α β : Type} (f : β → Bool) : ∀ (l : List β) (k : List β → α), Kn.filF f l k = k (l.filter f)
  | [], k => rfl
  | x :: l, k => by
    show (Bool.rec (Kn.filF f l k) (Kn.filF f l fun ys => k (x :: ys)) (f x) : α) = _
    rw [filF_eq f l, filF_eq f l, List.filter_cons]
    cases f x <;> rfl
theorem mem_set {s : Kn.S} {t : T} {i : Nat} {q : Mask × Row} {l : List (Mask × Row)} (m : Mem s t) (hq : t.rows[i]? = some q) (hl : q ∈ l) : Mem { s with cands := Kn.setR s.cands i l } t := by
  refine ⟨?_, m.bot, m.base, m.others, m.D⟩
  show All2 _ _ (Kn.setR s.cands i l)
  rw [setR_eq]
  exact All2.setR m.rows hq hl
theorem mem_set0 {s : Kn.S} {t : T} {i : Nat} {l : List (Mask × Row)} (m : Mem s t) (hq : t.rows[i]? = none) : Mem { s with cands := Kn.setR s.cands i l } t := by
  refine ⟨?_, m.bot, m.base, m.others, m.D⟩
  show All2 _ _ (Kn.setR s.cands i l)
  rw [setR_eq]
  have : s.cands.set i l = s.cands := List.set_eq_of_length_le (by rw [← m.rows.len]; exact List.getElem?_eq_none_iff.mp hq)
  rw [this]
  exact m.rows
theorem check_ok (n : Nat) : ∀ (f : Nat) (s : Kn.S) (t : T), WF n t → Mem s t → Kn.check n f s = true → Run n t
  | 0, s, t, _, _, h => by cases h
  | f + 1, s, t, w, m, h => by
    have h' : (Kn.Dec.rec (motive := fun _ => Bool)
      (Kn.stopOk n s) (fun i g => Kn.filF (fun q => g q.2) (Kn.gc s.cands i) (fun l => Kn.check n f { s with cands := Kn.setR s.cands i l }) && Kn.filF (fun q => !g q.2) (Kn.gc s.cands i) (fun l => Kn.check n f { s with cands := Kn.setR s.cands i l }))
      (fun i => (List.rec (motive := fun _ => Bool) false (fun _ _ _ => true) (Kn.gc s.cands i)) && Kn.allR (fun c => Kn.check n f { s with cands := Kn.setR s.cands i [c] }) (Kn.gc s.cands i))
      (fun b r k => List.rec (motive := fun _ => Bool) false (fun q t _ => List.rec (motive := fun _ => Bool) (Kn.pivOk b s r k n q.2 && Kn.fI (Kn.gi q.2 k) fun p => Kn.fS (Kn.pivS s r k q.1 q.2 p) fun s' => Kn.wfS n s' && Kn.check n f s') (fun _ _ _ => false) t) (Kn.gc s.cands r))
      (Kn.pick n s (List.range (s.base.length + n))) : Bool) = true := h
    clear h
    revert h'
    cases Kn.pick n s (List.range (s.base.length + n)) with
    | stop => intro h; exact stop_ok m w h
    | split i g =>
      intro h
      obtain ⟨h1, h2⟩ := and4 h
      rw [filF_eq] at h1 h2
      cases hq : t.rows[i]? with
      | none => exact check_ok n f _ t w (mem_set0 m hq) h1
      | some q =>
        obtain ⟨cs, hc1, hc2⟩ := m.rows.get hq
        have e : Kn.gc s.cands i = cs := by rw [gc_eq, List.getD_eq_getElem?_getD, hc1]; rfl
        rw [e] at h1 h2
        cases hg : g q.2 with
        | true => exact check_ok n f _ t w (mem_set m hq (List.mem_filter.mpr ⟨hc2, hg⟩)) h1
        | false => exact check_ok n f _ t w (mem_set m hq (List.mem_filter.mpr ⟨hc2, by simp [hg]⟩)) h2
    | single i =>
      intro h
      obtain ⟨h0, h'⟩ := and4 h
      cases hq : t.rows[i]? with
      | none =>
        have hn : s.cands[i]? = none := by
          rw [List.getElem?_eq_none_iff, ← m.rows.len]; exact List.getElem?_eq_none_iff.mp hq
        rw [gc_eq, List.getD_eq_getElem?_getD, hn] at h0
        cases h0
      | some q =>
        obtain ⟨cs, hc1, hc2⟩ := m.rows.get hq
        have e : Kn.gc s.cands i = cs := by rw [gc_eq, List.getD_eq_getElem?_getD, hc1]; rfl
        rw [e] at h'
        exact check_ok n f _ t w (mem_set m hq List.mem_cons_self) (allR_ok h' q hc2)
    | piv b r k =>
      intro h
      dsimp only at h
      cases hg : Kn.gc s.cands r with
      | nil => rw [hg] at h; cases h
      | cons q tl =>
        rw [hg] at h
        cases tl with
        | cons _ _ => cases h
        | nil =>
          obtain ⟨h1, h2⟩ := and4 (show (Kn.pivOk b s r k n q.2 && Kn.fI (Kn.gi q.2 k) fun p => Kn.fS (Kn.pivS s r k q.1 q.2 p) fun s' => Kn.wfS n s' && Kn.check n f s') = true from h)
          rw [fI_eq, fS_eq, gi_eq] at h2
          obtain ⟨h2, h3⟩ := and4 h2
          have hc : s.cands[r]? = some [q] := by rw [gc_get (q := q) (by rw [hg]; exact List.mem_cons_self), hg]
          obtain ⟨q', hq1, hq2⟩ := m.rows.getR hc
          have e : q' = q := List.mem_singleton.mp hq2
          subst e
          obtain ⟨mm, mid⟩ := q'
          have m' := mem_piv (n := n) (k := k) m w hq1
          have run := check_ok n f _ _ (wf_of m' h2) m' h3
          have hmid := (w.row _ (List.mem_of_getElem? hq1))
          cases b with
          | true =>
            obtain ⟨h1, hB⟩ := and4 h1
            obtain ⟨hr, hk⟩ := and4 h1
            obtain ⟨hB, b5⟩ := and4 hB
            obtain ⟨hB, b4⟩ := and4 hB
            obtain ⟨hB, b3⟩ := and4 hB
            obtain ⟨b1, b2⟩ := and4 hB
            rw [gn_eq, ← m.base] at b2 b3
            rw [gn_eq, ← m.others] at b5
            rw [← m.others, ← m.bot] at b3
            have b1' : gi mid n < 0 := by
              rw [gi_eq, Bool.not_eq_true'] at b1
              by_cases z : 0 ≤ gi mid n
              · rw [(nn_iff _).mpr z] at b1; cases b1
              · omega
            have b4' : gi mid k < 0 := by
              rw [gi_eq, Bool.not_eq_true'] at b4
              by_cases z : 0 ≤ gi mid k
              · rw [(nn_iff _).mpr z] at b4; cases b4
              · omega
            refine .row t r k mm mid w hq1 (Nat.le_of_ble_eq_true hk) b1' (fun i q hq hx => ?_) (forCols_ok w.ol w.bot.1 b3) b4' (forCols_ok w.ol hmid.1 b5) run
            exact forRows_ok m w b2 i q hq (by rw [gi_eq]; exact nn_false hx)
          | false =>
            obtain ⟨h1, hB⟩ := and4 h1
            obtain ⟨hr, hk⟩ := and4 h1
            obtain ⟨hB, b5⟩ := and4 hB
            obtain ⟨hB, b4⟩ := and4 hB
            obtain ⟨hB, b3⟩ := and4 hB
            obtain ⟨b1, b2⟩ := and4 hB
            rw [gn_eq, ← m.others] at b2 b3
            rw [← m.bot] at b3 b1
            rw [gn_eq, ← m.base] at b5
            have b1' : gi t.bot k < 0 := by
              rw [gi_eq, Bool.not_eq_true'] at b1
              by_cases z : 0 ≤ gi t.bot k
              · rw [(nn_iff _).mpr z] at b1; cases b1
              · omega
            have b4' : 0 < gi mid k := by
              rw [gi_eq, Bool.not_eq_true'] at b4
              by_cases z : gi mid k ≤ 0
              · rw [(np_iff _).mpr z] at b4; cases b4
              · omega
            rw [← m.base] at b2
            refine .col t r k mm mid w hq1 (Nat.le_of_ble_eq_true hk) b1' (fun i q hq hx => ?_) (forCols_ok w.ol w.bot.1 b3) b4' (fun i q hq hx => ?_) run
            · exact forRows_ok m w b2 i q hq (by rw [gi_eq]; exact nn_false hx)
            · exact forRows_ok m w b5 i q hq (by rw [gi_eq]; exact np_false hx)
end Jh.LP

set_option Elab.async false
set_option linter.all false
set_option maxRecDepth 1000000
set_option maxHeartbeats 0
namespace Jh.LP
theorem go10 : (Kn.ones 1).all (Kn.go 1 0) = true := by decide +kernel
theorem go11 : (Kn.ones 1).all (Kn.go 1 1) = true := by decide +kernel
theorem go12 : (Kn.ones 1).all (Kn.go 1 2) = true := by decide +kernel
theorem go13 : (Kn.ones 1).all (Kn.go 1 3) = true := by decide +kernel
theorem go20 : (Kn.ones 2).all (Kn.go 2 0) = true := by decide +kernel
theorem go21 : (Kn.ones 2).all (Kn.go 2 1) = true := by decide +kernel
theorem go22 : (Kn.ones 2).all (Kn.go 2 2) = true := by decide +kernel
theorem go23 : (Kn.ones 2).all (Kn.go 2 3) = true := by decide +kernel
theorem go30 : (Kn.ones 3).all (Kn.go 3 0) = true := by decide +kernel
theorem go31 : (Kn.ones 3).all (Kn.go 3 1) = true := by decide +kernel
theorem go32 : (Kn.ones 3).all (Kn.go 3 2) = true := by decide +kernel
theorem go33 : (Kn.ones 3).all (Kn.go 3 3) = true := by decide +kernel
theorem go40 : (Kn.ones 4).all (Kn.go 4 0) = true := by decide +kernel
theorem go41 : (Kn.ones 4).all (Kn.go 4 1) = true := by decide +kernel
theorem go42 : (Kn.ones 4).all (Kn.go 4 2) = true := by decide +kernel
theorem go43_0 : Kn.go 4 3 [false, false, false, true] = true := by decide +kernel
theorem go43_1 : Kn.go 4 3 [false, false, true, false] = true := by decide +kernel
theorem go43_2 : Kn.go 4 3 [false, false, true, true] = true := by decide +kernel
theorem go43_3 : Kn.go 4 3 [false, true, false, false] = true := by decide +kernel
theorem go43_4 : Kn.go 4 3 [false, true, false, true] = true := by decide +kernel
theorem go43_5 : Kn.go 4 3 [false, true, true, false] = true := by decide +kernel
theorem go43_6 : Kn.go 4 3 [false, true, true, true] = true := by decide +kernel
theorem go43_7 : Kn.go 4 3 [true, false, false, false] = true := by decide +kernel
theorem go43_8 : Kn.go 4 3 [true, false, false, true] = true := by decide +kernel
theorem go43_9 : Kn.go 4 3 [true, false, true, false] = true := by decide +kernel
theorem go43_10 : Kn.go 4 3 [true, false, true, true] = true := by decide +kernel
theorem go43_11 : Kn.go 4 3 [true, true, false, false] = true := by decide +kernel
theorem go43_12 : Kn.go 4 3 [true, true, false, true] = true := by decide +kernel
theorem go43_13 : Kn.go 4 3 [true, true, true, false] = true := by decide +kernel
theorem go43_14 : Kn.go 4 3 [true, true, true, true] = true := by decide +kernel
theorem go43 : (Kn.ones 4).all (Kn.go 4 3) = true := by
  have e : (Kn.ones 4).all (fun k => decide (k ∈ [[false, false, false, true], [false, false, true, false], [false, false, true, true], [false, true, false, false], [false, true, false, true], [false, true, true, false], [false, true, true, true], [true, false, false, false], [true, false, false, true], [true, false, true, false], [true, false, true, true], [true, true, false, false], [true, true, false, true], [true, true, true, false], [true, true, true, true]])) = true := by decide +kernel
  rw [List.all_eq_true] at e ⊢
  intro k hk
  have := of_decide_eq_true (e k hk)
  simp only [List.mem_cons, List.not_mem_nil, or_false] at this
  rcases this with rfl | rfl | rfl | rfl | rfl | rfl | rfl | rfl | rfl | rfl | rfl | rfl | rfl | rfl | rfl
  · exact go43_0
  · exact go43_1
  · exact go43_2
  · exact go43_3
  · exact go43_4
  · exact go43_5
  · exact go43_6
  · exact go43_7
  · exact go43_8
  · exact go43_9
  · exact go43_10
  · exact go43_11
  · exact go43_12
  · exact go43_13
  · exact go43_14
theorem go_all {n m : Nat} (hn : 1 ≤ n) (hn4 : n ≤ 4) (hm4 : m ≤ 3) : (Kn.ones n).all (Kn.go n m) = true := by
  rcases (show n = 1 ∨ n = 2 ∨ n = 3 ∨ n = 4 by omega) with rfl | rfl | rfl | rfl <;> rcases (show m = 0 ∨ m = 1 ∨ m = 2 ∨ m = 3 by omega) with rfl | rfl | rfl | rfl
  · exact go10
  · exact go11
  · exact go12
  · exact go13
  · exact go20
  · exact go21
  · exact go22
  · exact go23
  · exact go30
  · exact go31
  · exact go32
  · exact go33
  · exact go40
  · exact go41
  · exact go42
  · exact go43
theorem masks_mem : ∀ (k : Mask), k ∈ Kn.masks k.length
  | [] => List.mem_singleton.mpr rfl
  | b :: k => by
    show _ ∈ (Kn.masks k.length).flatMap _
    refine List.mem_flatMap.mpr ⟨k, masks_mem k, ?_⟩
    cases b <;> simp
def row0 (m : Mask) : Row := m.map (fun b => if b then -1 else 0) ++ [-1]
def t0 (n : Nat) (mks : List Mask) : T := ⟨mks.map fun k => (k, row0 k), List.replicate n 1 ++ [0], (List.range mks.length).map (fun i => n + i), List.range n, 1⟩
theorem all2_rep {cs : List (Mask × Row)} : ∀ (mks : List Mask), (∀ k ∈ mks, (k, row0 k) ∈ cs) → All2 (fun (q : Mask × Row) cs => q ∈ cs) (mks.map fun k => (k, row0 k)) (List.replicate mks.length cs)
  | [], _ => .nil
  | k :: mks, h => .cons (h k List.mem_cons_self) (all2_rep mks fun k hk => h k (List.mem_cons_of_mem _ hk))
theorem lp_run {n : Nat} {mks : List Mask} (hn : 1 ≤ n) (hn4 : n ≤ 4) (hm : 1 ≤ mks.length) (hm4 : mks.length ≤ 4) (h : ∀ k ∈ mks, k.length = n ∧ k.any (fun b => b) = true) : Run n (t0 n mks) := by
  cases mks with
  | nil => simp at hm
  | cons k0 mks =>
    have one : ∀ k ∈ k0 :: mks, k ∈ Kn.ones n := fun k hk => List.mem_filter.mpr ⟨by have := masks_mem k; rw [(h k hk).1] at this; exact this, (h k hk).2⟩
    have g := List.all_eq_true.mp (go_all (m := mks.length) hn hn4 (by simpa using hm4)) k0 (one k0 List.mem_cons_self)
    unfold Kn.go at g
    rw [fS_eq] at g
    obtain ⟨g1, g2⟩ := and4 g
    have m : Mem (Kn.s0 n mks.length k0) (t0 n (k0 :: mks)) :=
      ⟨.cons (List.mem_singleton.mpr rfl) (all2_rep mks fun k hk => List.mem_map.mpr ⟨k, one k (List.mem_cons_of_mem _ hk), rfl⟩), rfl, rfl, rfl, rfl⟩
    exact check_ok n 40 _ _ (wf_of m g1) m g2
end Jh.LP

set_option Elab.async false
set_option linter.all false
set_option maxRecDepth 100000
set_option maxHeartbeats 4000000
namespace Jh
open PySem PySem.Spec PyProof.Rows L2
/-! ### expressions that change nothing -/
def Pu (a : AX) (ρ : En) (μ : Sto) (c : Cl) : Prop := ∀ er (Q : Cl → Sto → Prop), Q c μ → a er ρ μ Q
section
variable {a b : AX} {ρ : En} {μ : Sto} {c x y : Cl} {C : Addr}
theorem pu_var {i : Nat} (h : ρ[i]? = some (some c)) : Pu (aVar i) ρ μ c := fun er Q q => by
  show match ρ[i]? with | some (some c) => Q c μ | _ => False
  rw [h]; exact q
theorem pu_c {d : PyData} : Pu (aC d) ρ μ (.d d) := fun _ _ q => q
theorem pu_fld {j : Nat} {f : Str} {fs : List (Str × Cl)} (ha : Pu a ρ μ (.m j)) (h : μ[j]? = some (.ins C fs)) (hf : getF f fs = some c) : Pu (aFld C f a) ρ μ c := fun er Q q => by
  refine ha er _ ?_
  show match μ[j]? with | some (.ins C' fs) => C' = C ∧ (match getF f fs with | some c => Q c μ | none => False) | _ => False
  rw [h]
  refine ⟨rfl, ?_⟩
  rw [hf]; exact q
theorem pu_ix {i : Int} {cs : List Cl} (ha : Pu a ρ μ x) (hb : Pu b ρ μ (.d (.int i))) (hx : cellsOf x μ = some cs) (hi : atI cs i = some c) : Pu (aIx a b) ρ μ c := fun er Q q => by
  refine ha er _ (hb er _ ?_)
  show fIx x (.d (.int i)) μ Q
  have e : fIx x (.d (.int i)) μ Q = (match cellsOf x μ with
      | some cs => (match atI cs i with
        | some c => Q c μ
        | none => False)
      | none => False) := by
    cases x with
    | d y => cases y <;> first | rfl | cases hx
    | m j => rfl
    | v z => rfl
    | s z => rfl
  rw [e, hx]
  show match atI cs i with | some c => Q c μ | none => False
  rw [hi]; exact q
theorem pu_lenC {cs : List Cl} (ha : Pu a ρ μ x) (hx : cellsOf x μ = some cs) : Pu (aCB fLen (aCons a aNil)) ρ μ (.d (.int cs.length)) := fun er Q q => by
  refine ha er _ ?_
  show fLen [x] μ Q
  have e : fLen [x] μ Q = (match cellsOf x μ with
    | some xs => Q (.d (.int xs.length)) μ
    | none => False) := by
    cases x with
    | d y => cases y <;> first | rfl | cases hx
    | m j => rfl
    | v z => rfl
    | s z => rfl
  rw [e, hx]
  exact q
theorem pu_neg {i : Int} (ha : Pu a ρ μ (.d (.int i))) : Pu (aNeg a) ρ μ (.d (.int (-i))) := fun er Q q => ha er _ q
theorem pu_add {i j : Int} (ha : Pu a ρ μ (.d (.int i))) (hb : Pu b ρ μ (.d (.int j))) : Pu (aOp fAdd a b) ρ μ (.d (.int (i + j))) := fun er Q q => ha er _ (hb er _ q)
theorem pu_sub {i j : Int} (ha : Pu a ρ μ (.d (.int i))) (hb : Pu b ρ μ (.d (.int j))) : Pu (aOp fSub a b) ρ μ (.d (.int (i - j))) := fun er Q q => ha er _ (hb er _ q)
theorem pu_mul {i j : Int} (ha : Pu a ρ μ (.d (.int i))) (hb : Pu b ρ μ (.d (.int j))) (h : MulOk i j) : Pu (aOp fMul a b) ρ μ (.d (.int (i * j))) := fun er Q q => ha er _ (hb er _ ⟨h, q⟩)
theorem pu_div {i j : Int} (ha : Pu a ρ μ (.d (.int i))) (hb : Pu b ρ μ (.d (.int j))) (h : CDivW i j) : Pu (aOp fDiv a b) ρ μ (.d (.int (i / j))) := fun er Q q => ha er _ (hb er _ ⟨h, q⟩)
theorem pu_lt {i j : Int} (ha : Pu a ρ μ (.d (.int i))) (hb : Pu b ρ μ (.d (.int j))) : Pu (aOp fLt a b) ρ μ (.d (.bool (decide (i < j)))) := fun er Q q => ha er _ (hb er _ q)
theorem pu_I {p : Int → Int → Bool} {i j : Int} (ha : Pu a ρ μ (.d (.int i))) (hb : Pu b ρ μ (.d (.int j))) : Pu (aOp (fI p) a b) ρ μ (.d (.bool (p i j))) := fun er Q q => ha er _ (hb er _ q)
theorem pu_eqI {n : Bool} {i j : Int} (ha : Pu a ρ μ (.d (.int i))) (hb : Pu b ρ μ (.d (.int j))) : Pu (aOp (fEq n) a b) ρ μ (.d (.bool (n != decide (i = j)))) := fun er Q q => ha er _ (hb er _ (And.intro (show (0 : Nat) ≤ 32 by decide) (by rw [eqv_int]; exact q)))
theorem pu_test {k : Bool} (ha : Pu a ρ μ (.d (.bool k))) (er : Er) (Q : Bool → Sto → Prop) (q : Q k μ) : aTest a er ρ μ Q := ha er _ q
theorem pu_in {n : Bool} {d : PyData} {cs : List Cl} {ds : List PyData} (ha : Pu a ρ μ (.d d)) (hb : Pu b ρ μ x) (hx : cellsOf x μ = some cs) (hd : allD cs = some ds) (hdep : d.depth ≤ 32) : Pu (aOp (fIn n) a b) ρ μ (.d (.bool (n != inD d ds))) := fun er Q q => by
  refine ha er _ (hb er _ ?_)
  show fIn n (.d d) x μ Q
  have e : fIn n (.d d) x μ Q = (match cellsOf x μ with
    | some cs => (match allD cs with
      | some ds => d.depth ≤ 32 ∧ Q (.d (.bool (n != inD d ds))) μ
      | none => False)
    | none => False) := by
    cases x with
    | d y => cases y <;> first | (cases d <;> rfl) | cases hx
    | m j => cases d <;> rfl
    | v z => cases d <;> rfl
    | s z => cases d <;> rfl
  rw [e, hx]
  show (match allD cs with | some ds => d.depth ≤ 32 ∧ Q (.d (.bool (n != inD d ds))) μ | none => False)
  rw [hd]
  exact ⟨hdep, q⟩
end
/-! ### stores -/
abbrev iL (l : List Int) : List Cl := l.map fun i => .d (.int i)
theorem at_same {μ : Sto} {a : Nat} {o o' : MO} (h : μ[a]? = some o) : (μ.set a o')[a]? = some o' := by
  rw [List.getElem?_set_self (List.getElem?_eq_some_iff.mp h).1]
theorem at_ne {μ : Sto} {a b : Nat} {o' : MO} (h : b ≠ a) : (μ.set a o')[b]? = μ[b]? := List.getElem?_set_ne (Ne.symm h)
theorem at_app {μ : Sto} {a : Nat} {o o' : MO} (h : μ[a]? = some o) : (μ ++ [o'])[a]? = some o := by
  rw [List.getElem?_append_left (List.getElem?_eq_some_iff.mp h).1]; exact h
theorem at_new {μ : Sto} {o : MO} : (μ ++ [o])[μ.length]? = some o := by simp
theorem at_lt {μ : Sto} {a : Nat} {o : MO} (h : μ[a]? = some o) : a < μ.length := (List.getElem?_eq_some_iff.mp h).1
/-- the store's first N are as they were -/
structure Fr (N : Nat) (μ μ' : Sto) : Prop where
  l : N ≤ μ'.length
  at_ : ∀ i, i < N → μ'[i]? = μ[i]?
theorem Fr.refl {N : Nat} {μ : Sto} (h : N ≤ μ.length) : Fr N μ μ := ⟨h, fun _ _ => rfl⟩
theorem Fr.set {N : Nat} {μ μ' : Sto} (f : Fr N μ μ') {a : Nat} {o : MO} (h : N ≤ a) : Fr N μ (μ'.set a o) := ⟨by rw [List.length_set]; exact f.l, fun i hi => by rw [at_ne (by omega)]; exact f.at_ i hi⟩
theorem Fr.app {N : Nat} {μ μ' : Sto} (f : Fr N μ μ') {o : MO} : Fr N μ (μ' ++ [o]) := ⟨by simp; have := f.l; omega, fun i hi => by
  have := f.l
  rw [List.getElem?_append_left (by omega)]; exact f.at_ i hi⟩
theorem Fr.trans {N : Nat} {μ μ' μ'' : Sto} (f : Fr N μ μ') (g : Fr N μ' μ'') : Fr N μ μ'' := ⟨g.l, fun i hi => (g.at_ i hi).trans (f.at_ i hi)⟩
theorem Fr.cut {μ μ' : Sto} (f : Fr μ.length μ μ') : μ' = μ ++ μ'.drop μ.length := by
  have e : μ'.take μ.length = μ := by
    apply List.ext_getElem?
    intro i
    by_cases hi : i < μ.length
    · rw [List.getElem?_take_of_lt hi, f.at_ i hi]
    · rw [List.getElem?_eq_none (by rw [List.length_take]; omega), List.getElem?_eq_none (by omega)]
  calc μ' = μ'.take μ.length ++ μ'.drop μ.length := (List.take_append_drop _ _).symm
    _ = _ := by rw [e]
/-- the end of a def whose store is forgotten -/
theorem fin_fr {μ μ' : Sto} {A : Cl → Sto → Prop} {d : PyData} (f : Fr μ.length μ μ') (h : A (.d d) μ) : finR μ A (.d d) μ' := .inr ⟨μ, μ'.drop μ.length, f.cut, Cut.refl μ, rfl, h⟩
theorem fin_frE {μ μ' : Sto} {er : Er} {C : Addr} (f : Fr μ.length μ μ') (h : er C μ) : finE μ er C μ' := .inr ⟨μ, μ'.drop μ.length, f.cut, Cut.refl μ, h⟩
/-! ### a tableau in the store -/
abbrev RowsAt (μ : Sto) (js : List Nat) (R : List (List Int)) : Prop := LP.All2 (fun a row => μ[a]? = some (.lst (iL row))) js R
abbrev flds (n : Int) (jr jb jo : Nat) (D : Int) : List (Str × Cl) := [("many", .d (.int n)), ("rows", .m jr), ("base", .m jb), ("others", .m jo), ("divisor", .d (.int D))]
structure TabX (C : Addr) (N : Nat) (μ : Sto) (j : Nat) (n : Int) (R : List (List Int)) (bs os : List Int) (D : Int) (jr jb jo : Nat) (js : List Nat) : Prop where
  obj : μ[j]? = some (.ins C (flds n jr jb jo D))
  rows : μ[jr]? = some (.lst (js.map .m))
  base : μ[jb]? = some (.lst (iL bs))
  others : μ[jo]? = some (.lst (iL os))
  at_ : RowsAt μ js R
  nd : (j :: jr :: jb :: jo :: js).Nodup
  ge : ∀ x ∈ j :: jr :: jb :: jo :: js, N ≤ x
def TabAt (C : Addr) (N : Nat) (μ : Sto) (j : Nat) (n : Int) (R : List (List Int)) (bs os : List Int) (D : Int) : Prop := ∃ jr jb jo js, TabX C N μ j n R bs os D jr jb jo js
section
variable {C : Addr} {N j jr jb jo : Nat} {js : List Nat} {μ : Sto} {n D : Int} {R : List (List Int)} {bs os : List Int} {ρ : En} {a b : AX} {c : Cl}
theorem getF_many : getF "many" (flds n jr jb jo D) = some (.d (.int n)) := rfl
theorem getF_rows : getF "rows" (flds n jr jb jo D) = some (.m jr) := rfl
theorem getF_base : getF "base" (flds n jr jb jo D) = some (.m jb) := rfl
theorem getF_others : getF "others" (flds n jr jb jo D) = some (.m jo) := rfl
theorem getF_div : getF "divisor" (flds n jr jb jo D) = some (.d (.int D)) := rfl
theorem cells_m {j : Nat} {μ : Sto} {cs : List Cl} (h : μ[j]? = some (.lst cs)) : cellsOf (.m j) μ = some cs := by
  show (match μ[j]? with | some (.lst cs) => some cs | _ => none) = some cs
  rw [h]
theorem listOf_m {j : Nat} {μ : Sto} {cs : List Cl} (h : μ[j]? = some (.lst cs)) : listOf (.m j) μ = some cs := by
  show (match μ[j]? with | some (.lst cs) => some cs | _ => none) = some cs
  rw [h]
variable (T : TabX C N μ j n R bs os D jr jb jo js)
include T
theorem tx_many (ha : Pu a ρ μ (.m j)) : Pu (aFld C "many" a) ρ μ (.d (.int n)) := pu_fld ha T.obj getF_many
theorem tx_rows (ha : Pu a ρ μ (.m j)) : Pu (aFld C "rows" a) ρ μ (.m jr) := pu_fld ha T.obj getF_rows
theorem tx_base (ha : Pu a ρ μ (.m j)) : Pu (aFld C "base" a) ρ μ (.m jb) := pu_fld ha T.obj getF_base
theorem tx_others (ha : Pu a ρ μ (.m j)) : Pu (aFld C "others" a) ρ μ (.m jo) := pu_fld ha T.obj getF_others
theorem tx_div (ha : Pu a ρ μ (.m j)) : Pu (aFld C "divisor" a) ρ μ (.d (.int D)) := pu_fld ha T.obj getF_div
omit T in
theorem atI_nat {α : Type} {xs : List α} {i : Nat} {x : α} (h : xs[i]? = some x) : atI xs (i : Int) = some x := by
  have hl := (List.getElem?_eq_some_iff.mp h).1
  unfold atI ixN
  rw [if_pos (by omega), if_pos (by omega)]
  show xs[(i : Int).toNat]? = _
  rw [Int.toNat_natCast]; exact h
omit T in
theorem atI_last {α : Type} {xs : List α} {x : α} (h : xs[xs.length - 1]? = some x) : atI xs (-1) = some x := by
  have hl := (List.getElem?_eq_some_iff.mp h).1
  unfold atI ixN
  rw [if_neg (by omega), if_pos (by omega)]
  show xs[(-1 + (xs.length : Int)).toNat]? = _
  rw [show (-1 + (xs.length : Int)).toNat = xs.length - 1 by omega]; exact h
theorem tx_base_at (ha : Pu a ρ μ (.m j)) {i : Nat} {v : Int} (hb : Pu b ρ μ (.d (.int (i : Nat)))) (h : bs[i]? = some v) : Pu (aIx (aFld C "base" a) b) ρ μ (.d (.int v)) :=
  pu_ix (tx_base T ha) hb (cells_m T.base) (atI_nat (by rw [List.getElem?_map, h]; rfl))
theorem tx_others_at (ha : Pu a ρ μ (.m j)) {i : Nat} {v : Int} (hb : Pu b ρ μ (.d (.int (i : Nat)))) (h : os[i]? = some v) : Pu (aIx (aFld C "others" a) b) ρ μ (.d (.int v)) :=
  pu_ix (tx_others T ha) hb (cells_m T.others) (atI_nat (by rw [List.getElem?_map, h]; rfl))
theorem tx_row_at (ha : Pu a ρ μ (.m j)) {i : Nat} {k : Nat} (hb : Pu b ρ μ (.d (.int (i : Nat)))) (h : js[i]? = some k) : Pu (aIx (aFld C "rows" a) b) ρ μ (.m k) :=
  pu_ix (tx_rows T ha) hb (cells_m T.rows) (atI_nat (by rw [List.getElem?_map, h]; rfl))
theorem tx_row_last (ha : Pu a ρ μ (.m j)) {k : Nat} (h : js[js.length - 1]? = some k) : Pu (aIx (aFld C "rows" a) (aNeg (aC (.int 1)))) ρ μ (.m k) :=
  pu_ix (tx_rows T ha) (pu_neg pu_c) (cells_m T.rows) (atI_last (by rw [List.length_map, List.getElem?_map, h]; rfl))
theorem tx_row {i : Nat} {row : List Int} (h : R[i]? = some row) : ∃ k, js[i]? = some k ∧ μ[k]? = some (.lst (iL row)) := LP.All2.getR (R := fun (a : Nat) (row : List Int) => μ[a]? = some (MO.lst (iL row))) T.at_ h
end
theorem ent_at {a b : AX} {ρ : En} {μ : Sto} {k : Nat} {row : List Int} {i : Nat} {v : Int} (ha : Pu a ρ μ (.m k)) (hr : μ[k]? = some (.lst (iL row))) (hb : Pu b ρ μ (.d (.int (i : Nat)))) (h : row[i]? = some v) : Pu (aIx a b) ρ μ (.d (.int v)) :=
  pu_ix ha hb (cells_m hr) (atI_nat (by rw [List.getElem?_map, h]; rfl))
theorem ent_last {a : AX} {ρ : En} {μ : Sto} {k : Nat} {row : List Int} {v : Int} (ha : Pu a ρ μ (.m k)) (hr : μ[k]? = some (.lst (iL row))) (h : row[row.length - 1]? = some v) : Pu (aIx a (aNeg (aC (.int 1)))) ρ μ (.d (.int v)) :=
  pu_ix ha (pu_neg pu_c) (cells_m hr) (atI_last (by rw [List.length_map, List.getElem?_map, h]; rfl))
/-! ### the steps, one by one -/
def PuT (t : AT) (ρ : En) (μ : Sto) (k : Bool) : Prop := ∀ er (Q : Bool → Sto → Prop), Q k μ → t er ρ μ Q
section
variable {a b : AX} {ρ : En} {μ : Sto} {c x y : Cl} {C : Addr} {D : AD} {s u : ASt} {t t2 : AT} {k k2 : Bool} {g : AG} {i : Nat}
theorem put (ha : Pu a ρ μ (.d (.bool k))) : PuT (aTest a) ρ μ k := fun er Q q => ha er _ q
theorem put_not (ha : PuT t ρ μ k) : PuT (aNot t) ρ μ (!k) := fun er Q q => ha er _ q
theorem put_and (h : PuT t ρ μ k) (h2 : k = true → PuT t2 ρ μ k2) : PuT (aAnd t t2) ρ μ (k && k2) := fun er Q q => h er _ (by
  cases k with
  | true => exact h2 rfl er Q q
  | false => exact q)
theorem put_or (h : PuT t ρ μ k) (h2 : k = false → PuT t2 ρ μ k2) : PuT (aOr t t2) ρ μ (k || k2) := fun er Q q => h er _ (by
  cases k with
  | true => exact q
  | false => exact h2 rfl er Q q)
theorem put_yes : PuT aYes ρ μ true := fun er Q q => q
theorem pu_if (h : PuT t ρ μ k) (h1 : k = true → Pu a ρ μ c) (h2 : k = false → Pu b ρ μ c) : Pu (aIf t a b) ρ μ c := fun er Q q => h er _ (by
  cases k with
  | true => exact h1 rfl er Q q
  | false => exact h2 rfl er Q q)
theorem pu_and (h : Pu a ρ μ (.d (.bool k))) (h2 : k = true → Pu b ρ μ (.d (.bool k2))) : Pu (aAndV a b) ρ μ (.d (.bool (k && k2))) := fun er Q q => h er _ (by
  cases k with
  | true => exact h2 rfl er Q q
  | false => exact q)
theorem i_seq (h : s { D with nx := fun ρ' μ' => u D ρ' μ' } ρ μ) : sSeq s u D ρ μ := h
theorem i_asg (ha : Pu a ρ μ c) (h : g c ρ μ D.nx) : sAsg a g D ρ μ := ha D.er _ h
theorem i_set (ha : Pu a ρ μ c) (h : D.nx (ρ.set i (some c)) μ) : sAsg a (gN i) D ρ μ := ha D.er _ h
theorem i_if (ht : PuT t ρ μ k) (h1 : k = true → s D ρ μ) (h2 : k = false → u D ρ μ) : sIf t s u D ρ μ := ht D.er _ (by
  cases k with
  | true => exact h1 rfl
  | false => exact h2 rfl)
theorem i_ret (ha : Pu a ρ μ c) (h : D.rt c μ) : sRet a D ρ μ := ha D.er _ h
theorem i_lcF {j : Nat} {vs : List Nat} {I : AI} (h : I D.er ρ μ fun xs st μ1 => lcL j (wipeE ρ vs) t a st (fun cs μ2 => match allD cs with
  | some ds => D.nx (ρ.set i (some (.d (.list ds)))) μ2
  | none => False) xs [] μ1) : sLcF i (aLc j vs I t a) D ρ μ := h
theorem i_rg1 {n : Nat} {er : Er} {Q : List Cl → (Sto → Prop) → Sto → Prop} (ha : Pu a ρ μ (.d (.int (n : Nat)))) (hn : n ≤ 1000) (h : Q (rgC 0 n) (fun _ => True) μ) : aRg1 (aCons a aNil) er ρ μ Q := ha er _ (And.intro (by omega) (And.intro (by omega) (by rw [Int.toNat_natCast]; exact h)))
theorem i_seqI {cs : List Cl} {er : Er} {Q : List Cl → (Sto → Prop) → Sto → Prop} (ha : Pu a ρ μ c) (hc : cellsOf c μ = some cs) (h : Q cs (stOf c cs) μ) : aSeqI a er ρ μ Q := ha er _ (by
  show match cellsOf c μ with | some xs => Q xs (stOf c xs) μ | none => False
  rw [hc]; exact h)
/-- a pure comprehension as an expression -/
theorem pu_lc {j : Nat} {vs : List Nat} {I : AI} {cs : List Cl} {ds : List PyData} {xs : List Cl} {st : Sto → Prop} (hI : ∀ er Q, Q xs st μ → I er ρ μ Q) (hl : ∀ Q, Q cs μ → lcL j (wipeE ρ vs) t a st Q xs [] μ) (hd : cs = ds.map .d) : Pu (aFrz (aLc j vs I t a)) ρ μ (.d (.list ds)) := fun er Q q => by
  subst hd
  refine hI er _ (hl _ ?_)
  show match allD (ds.map .d) with | some ds => Q (.d (.list ds)) μ | none => False
  rw [allD_map]; exact q
theorem pu_cat {cs es : List Cl} {ds : List PyData} (ha : Pu a ρ μ x) (hb : Pu b ρ μ y) (hx : listOf x μ = some cs) (hy : listOf y μ = some es) (hl : cs.length + es.length ≤ 1000) (hd : cs ++ es = ds.map .d) : Pu (aFrz (aCat a b)) ρ μ (.d (.list ds)) := fun er Q q => by
  refine ha er _ (hb er _ ?_)
  show match listOf x μ, listOf y μ with | some cs, some es => cs.length + es.length ≤ 1000 ∧ (match allD (cs ++ es) with | some ds => Q (.d (.list ds)) μ | none => False) | _, _ => False
  rw [hx, hy]
  refine ⟨hl, ?_⟩
  rw [hd, allD_map]; exact q
end
theorem rgC0 (n : Nat) : rgC 0 n = (List.range n).map fun i => Cl.d (.int (i : Nat)) := by
  unfold rgC
  simp only [Int.zero_add]
theorem lcL_nats {j : Nat} {ρ : En} {t : AT} {a : AX} {st : Sto → Prop} {Q : List Cl → Sto → Prop} {μ : Sto} (p : Nat → Bool) (f : Nat → Cl) (hs : st μ) :
    ∀ (xs : List Nat) (acc : List Cl), (∀ i ∈ xs, PuT t (ρ.set j (some (.d (.int (i : Nat))))) μ (p i)) → (∀ i ∈ xs, p i = true → Pu a (ρ.set j (some (.d (.int (i : Nat))))) μ (f i)) → acc.length + xs.length ≤ 1000 →
      Q (acc ++ (xs.filter p).map f) μ → lcL j ρ t a st Q (xs.map fun i => Cl.d (.int (i : Nat))) acc μ
  | [], acc, _, _, _, h => ⟨hs, by simpa using h⟩
  | x :: xs, acc, ht, ha, hl, h => by
    refine ⟨hs, by simp at hl; omega, ht x List.mem_cons_self _ _ ?_⟩
    cases hp : p x with
    | true =>
      refine ha x List.mem_cons_self hp _ _ (lcL_nats p f hs xs (acc ++ [f x]) (fun y hy => ht y (List.mem_cons_of_mem _ hy)) (fun y hy => ha y (List.mem_cons_of_mem _ hy)) (by simp at hl ⊢; omega) ?_)
      rw [List.filter_cons, if_pos hp] at h
      simpa using h
    | false =>
      refine lcL_nats p f hs xs acc (fun y hy => ht y (List.mem_cons_of_mem _ hy)) (fun y hy => ha y (List.mem_cons_of_mem _ hy)) (by simp at hl ⊢; omega) ?_
      rw [List.filter_cons, if_neg (by simp [hp])] at h
      exact h
theorem lcL_rg {j n : Nat} {ρ : En} {t : AT} {a : AX} {st : Sto → Prop} {Q : List Cl → Sto → Prop} {μ : Sto} (p : Nat → Bool) (f : Nat → Cl) (hs : st μ) (hn : n ≤ 1000) (ht : ∀ i, i < n → PuT t (ρ.set j (some (.d (.int (i : Nat))))) μ (p i))
    (ha : ∀ i, i < n → p i = true → Pu a (ρ.set j (some (.d (.int (i : Nat))))) μ (f i)) (h : Q (((List.range n).filter p).map f) μ) : lcL j ρ t a st Q (rgC 0 n) [] μ := by
  rw [rgC0]
  exact lcL_nats p f hs _ [] (fun i hi => ht i (List.mem_range.mp hi)) (fun i hi => ha i (List.mem_range.mp hi)) (by simpa using hn) h
section
variable {a b e : AX} {ρ : En} {μ : Sto} {c x y : Cl} {C : Addr} {D : AD} {s u v : ASt} {t t2 : AT} {k k2 : Bool} {g : AG} {i : Nat} {d1 d2 d3 : PyData}
theorem i_sset (ha : Pu a ρ μ c) (h : u D (ρ.set i (some c)) μ) : sSeq (sAsg a (gN i)) u D ρ μ := ha D.er _ h
theorem i_sif (ht : PuT t ρ μ k) (h1 : k = true → s { D with nx := fun ρ' μ' => v D ρ' μ' } ρ μ) (h2 : k = false → u { D with nx := fun ρ' μ' => v D ρ' μ' } ρ μ) : sSeq (sIf t s u) v D ρ μ := i_if ht h1 h2
theorem i_sifN (ht : PuT t ρ μ k) (h1 : k = true → s { D with nx := fun ρ' μ' => v D ρ' μ' } ρ μ) (h2 : k = false → v D ρ μ) : sSeq (sIf t s sNext) v D ρ μ := i_if ht h1 h2
theorem i_slcF {j : Nat} {vs : List Nat} {I : AI} (h : I D.er ρ μ fun xs st μ1 => lcL j (wipeE ρ vs) t a st (fun cs μ2 => match allD cs with
  | some ds => u D (ρ.set i (some (.d (.list ds)))) μ2
  | none => False) xs [] μ1) : sSeq (sLcF i (aLc j vs I t a)) u D ρ μ := h
theorem pu_tup0 : Pu (aTup aNil) ρ μ (.d (.tuple [])) := fun er Q q => And.intro (Nat.le_of_ble_eq_true rfl) q
theorem pu_tup1 (ha : Pu a ρ μ (.d d1)) : Pu (aTup (aCons a aNil)) ρ μ (.d (.tuple [d1])) := fun er Q q => ha er _ (And.intro (Nat.le_of_ble_eq_true rfl) q)
theorem pu_tup2 (ha : Pu a ρ μ (.d d1)) (hb : Pu b ρ μ (.d d2)) : Pu (aTup (aCons a (aCons b aNil))) ρ μ (.d (.tuple [d1, d2])) := fun er Q q => ha er _ (hb er _ (And.intro (Nat.le_of_ble_eq_true rfl) q))
theorem pu_tup3 (ha : Pu a ρ μ (.d d1)) (hb : Pu b ρ μ (.d d2)) (he : Pu e ρ μ (.d d3)) : Pu (aTup (aCons a (aCons b (aCons e aNil)))) ρ μ (.d (.tuple [d1, d2, d3])) := fun er Q q => ha er _ (hb er _ (he er _ (And.intro (Nat.le_of_ble_eq_true rfl) q)))
theorem i_lc_end {cs : List Cl} {ds : List PyData} {R : List PyData → Prop} (e : cs = ds.map .d) (h : R ds) : (match allD cs with | some ds => R ds | none => False) := by
  subst e
  rw [allD_map]
  exact h
end
end Jh

set_option Elab.async false
set_option linter.all false
set_option maxRecDepth 100000
set_option maxHeartbeats 4000000
namespace Jh
open PySem PySem.Spec PyProof.Rows L2
/-! ### min of tuples of ints -/
def dL (l : List Int) : PyData := .tuple (l.map .int)
theorem dL_lt (x y : List Int) : PySem.W.dataLt (dL x) (dL y) = decide (x < y) := by
  unfold dL
  rw [PySem.W.dataLt_tuple]
  exact PySem.W.dataLt_ints x y
theorem dL_alike (x y : List Int) : PySem.W.alike (dL x) (dL y) = true := by
  unfold dL
  simp only [PySem.W.alike]
  exact PySem.W.alikeAll_map x y
theorem dL_depth (x : List Int) : (dL x).depth ≤ 1 := PySem.W.Datum.depth_le (PySem.W.Tup.mk x)
theorem eqv_dL (x y : List Int) : PyData.eqv (dL x) (dL y) = decide (x = y) := by
  have := PySem.W.Datum.eqv (PySem.W.Tup.mk x) (PySem.W.Tup.mk y)
  have e : PyData.eqv (dL x) (dL y) = decide (PySem.W.Tup.mk x = PySem.W.Tup.mk y) := this
  rw [e]
  exact decide_eq_decide.mpr ⟨fun h => by injection h, fun h => by rw [h]⟩
theorem dL_depths (L : List (List Int)) : PyData.depthAll (L.map dL) ≤ 1 := by
  induction L with
  | nil => exact Nat.zero_le _
  | cons x L ih => rw [List.map_cons, PyData.depthAll]; exact Nat.max_le.mpr ⟨dL_depth x, ih⟩
theorem minD_dL : ∀ (L : List (List Int)) (l : List Int), PySem.W.minD (dL l) (L.map dL) = dL (L.foldl (fun a y => if y < a then y else a) l)
  | [], l => rfl
  | y :: L, l => by
    show PySem.W.minD (if PySem.W.dataLt (dL y) (dL l) = true then dL y else dL l) (L.map dL) = _
    rw [dL_lt]
    by_cases h : y < l
    · rw [if_pos (by simpa using h), minD_dL L y, List.foldl_cons, if_pos h]
    · rw [if_neg (by simpa using h), minD_dL L l, List.foldl_cons, if_neg h]
theorem head_lt {x y : List Int} (hx : x ≠ []) (hy : y ≠ []) (h : x < y) : x.headD 0 ≤ y.headD 0 := by
  cases x with
  | nil => exact absurd rfl hx
  | cons a x => cases y with
    | nil => exact absurd rfl hy
    | cons b y =>
      rcases List.cons_lt_cons_iff.mp h with z | z
      · show a ≤ b; omega
      · show a ≤ b; omega
theorem head_nlt {x y : List Int} (hx : x ≠ []) (hy : y ≠ []) (h : ¬ x < y) : y.headD 0 ≤ x.headD 0 := by
  cases x with
  | nil => exact absurd rfl hx
  | cons a x => cases y with
    | nil => exact absurd rfl hy
    | cons b y =>
      show b ≤ a
      rcases Int.lt_or_le a b with z | z
      · exact absurd (List.cons_lt_cons_iff.mpr (.inl z)) h
      · exact z
theorem minL : ∀ (L : List (List Int)) (l : List Int), l ≠ [] → (∀ y ∈ L, y ≠ []) → (L.foldl (fun a y => if y < a then y else a) l) ∈ l :: L ∧ ∀ y ∈ l :: L, (L.foldl (fun a y => if y < a then y else a) l).headD 0 ≤ y.headD 0
  | [], l, _, _ => ⟨List.mem_cons_self, fun y hy => by rw [List.mem_singleton.mp hy]; exact Int.le_refl _⟩
  | z :: L, l, hl, hL => by
    have hz := hL z List.mem_cons_self
    rw [List.foldl_cons]
    by_cases h : z < l
    · rw [if_pos h]
      obtain ⟨h1, h2⟩ := minL L z hz fun y hy => hL y (List.mem_cons_of_mem _ hy)
      refine ⟨List.mem_cons_of_mem _ h1, fun y hy => ?_⟩
      rcases List.mem_cons.mp hy with rfl | hy
      · exact Int.le_trans (h2 z List.mem_cons_self) (head_lt hz hl h)
      · exact h2 y hy
    · rw [if_neg h]
      obtain ⟨h1, h2⟩ := minL L l hl fun y hy => hL y (List.mem_cons_of_mem _ hy)
      refine ⟨?_, fun y hy => ?_⟩
      · rcases List.mem_cons.mp h1 with h1 | h1
        · rw [h1]; exact List.mem_cons_self
        · exact List.mem_cons_of_mem _ (List.mem_cons_of_mem _ h1)
      · rcases List.mem_cons.mp hy with rfl | hy
        · exact h2 y List.mem_cons_self
        · rcases List.mem_cons.mp hy with rfl | hy
          · exact Int.le_trans (h2 l List.mem_cons_self) (head_nlt hz hl h)
          · exact h2 y (List.mem_cons_of_mem _ hy)
theorem pu_min {a : AX} {ρ : En} {μ : Sto} {c : Cl} {L : List (List Int)} {cs : List Cl} (er : Er) (Q : Cl → Sto → Prop) (ha : Pu a ρ μ c) (hx : listOf c μ = some cs) (hc : cs = (L.map dL).map .d) (hne : L ≠ []) (hn : ∀ y ∈ L, y ≠ [])
    (h : ∀ r ∈ L, (∀ y ∈ L, r.headD 0 ≤ y.headD 0) → Q (.d (dL r)) μ) : aCB fMinD (aCons a aNil) er ρ μ Q := by
  refine ha er _ ?_
  show match listOf c μ with | some xs => (match allD xs with | some (d :: ds) => PySem.W.AlikeAll (d :: ds) ∧ PyData.depthAll (d :: ds) ≤ 32 ∧ Q (.d (PySem.W.minD d ds)) μ | _ => False) | none => False
  rw [hx, hc]
  dsimp only
  rw [allD_map]
  cases L with
  | nil => exact absurd rfl hne
  | cons l L =>
    refine ⟨⟨fun x hx y hy => ?_, fun x hx => ?_⟩, Nat.le_trans (dL_depths (l :: L)) (by decide), ?_⟩
    · obtain ⟨u, _, rfl⟩ := List.mem_map.mp (show x ∈ (l :: L).map dL from hx)
      obtain ⟨v, _, rfl⟩ := List.mem_map.mp (show y ∈ (l :: L).map dL from hy)
      exact dL_alike u v
    · obtain ⟨u, _, rfl⟩ := List.mem_map.mp (show x ∈ (l :: L).map dL from hx)
      intro e; cases e
    · rw [minD_dL]
      obtain ⟨h1, h2⟩ := minL L l (hn l List.mem_cons_self) fun y hy => hn y (List.mem_cons_of_mem _ hy)
      exact h _ h1 h2
/-! ### wrong -/
open LP (gi gn)
structure Shp (nn m : Nat) (R : List (List Int)) (bs os : List Int) : Prop where
  rl : R.length = m + 1
  row : ∀ r ∈ R, r.length = nn + 1
  bl : bs.length = m
  ol : os.length = nn
  m1 : m ≤ 100
  n1 : nn ≤ 100
/-- entry i k -/
def en (R : List (List Int)) (i k : Nat) : Int := gi (R.getD i []) k
theorem gi_get {r : List Int} {k : Nat} (h : k < r.length) : r[k]? = some (gi r k) := by
  unfold gi
  rw [List.getD_eq_getElem?_getD, List.getElem?_eq_getElem h]; rfl
theorem iat {l : List Int} {k : Nat} (h : k < l.length) : l[k]? = some (l.getD k 0) := gi_get h
section
variable {C : Addr} {N j jr jb jo : Nat} {js : List Nat} {μ : Sto} {n D : Int} {R : List (List Int)} {bs os : List Int} {ρ : En} {a b e : AX} {c : Cl} {nn m : Nat}
theorem Shp.get (S : Shp nn m R bs os) {i : Nat} (h : i < m + 1) : R[i]? = some (R.getD i []) ∧ (R.getD i []).length = nn + 1 := by
  have hi : i < R.length := by rw [S.rl]; exact h
  have e : R[i]? = some (R.getD i []) := by rw [List.getD_eq_getElem?_getD, List.getElem?_eq_getElem hi]; rfl
  exact ⟨e, S.row _ (List.mem_of_getElem? e)⟩
variable (T : TabX C N μ j n R bs os D jr jb jo js) (S : Shp nn m R bs os)
include T S
theorem js_len : js.length = m + 1 := by rw [LP.All2.len T.at_, S.rl]
/-- self.rows[i][-1], self.rows[i][k], self.rows[-1][k] -/
theorem tx_rhs {i : Nat} (ha : Pu a ρ μ (.m j)) (hb : Pu b ρ μ (.d (.int (i : Nat)))) (hi : i < m + 1) : Pu (aIx (aIx (aFld C "rows" a) b) (aNeg (aC (.int 1)))) ρ μ (.d (.int (en R i nn))) := by
  obtain ⟨h1, h2⟩ := S.get hi
  obtain ⟨k, hk1, hk2⟩ := tx_row T h1
  exact ent_last (tx_row_at T ha hb hk1) hk2 (by rw [h2]; exact gi_get (by omega))
theorem tx_ent {i k : Nat} (ha : Pu a ρ μ (.m j)) (hb : Pu b ρ μ (.d (.int (i : Nat)))) (he : Pu e ρ μ (.d (.int (k : Nat)))) (hi : i < m + 1) (hk : k < nn + 1) : Pu (aIx (aIx (aFld C "rows" a) b) e) ρ μ (.d (.int (en R i k))) := by
  obtain ⟨h1, h2⟩ := S.get hi
  obtain ⟨x, hk1, hk2⟩ := tx_row T h1
  exact ent_at (tx_row_at T ha hb hk1) hk2 he (gi_get (by omega))
theorem tx_bot {k : Nat} (ha : Pu a ρ μ (.m j)) (he : Pu e ρ μ (.d (.int (k : Nat)))) (hk : k < nn + 1) : Pu (aIx (aIx (aFld C "rows" a) (aNeg (aC (.int 1)))) e) ρ μ (.d (.int (en R m k))) := by
  obtain ⟨h1, h2⟩ := S.get (i := m) (by omega)
  obtain ⟨x, hk1, hk2⟩ := tx_row T h1
  exact ent_at (tx_row_last T ha (by rw [js_len T S]; exact hk1)) hk2 he (gi_get (by omega))
end
/-- what wrong() may return -/
inductive WrRes (nn m : Nat) (R : List (List Int)) (bs os : List Int) : PyData → Prop
  | none : (∀ i, i < m → 0 ≤ en R i nn) → (∀ k, k < nn → 0 ≤ en R m k) → WrRes nn m R bs os .none
  | row (r : Nat) : r < m → en R r nn < 0 → (∀ i, i < m → en R i nn < 0 → bs.getD r 0 ≤ bs.getD i 0) → (∀ k, k < nn → en R m k < 0 → bs.getD r 0 ≤ os.getD k 0) → WrRes nn m R bs os (dL [bs.getD r 0, r, -1])
  | col (k : Nat) : k < nn → en R m k < 0 → (∀ i, i < m → en R i nn < 0 → os.getD k 0 ≤ bs.getD i 0) → (∀ l, l < nn → en R m l < 0 → os.getD k 0 ≤ os.getD l 0) → WrRes nn m R bs os (dL [os.getD k 0, -1, k])
def r_tab_wrong (C : Addr) : RS := fun cs μ A _ => ∃ (N j : Nat) (n : Int) (R : List (List Int)) (bs os : List Int) (D : Int) (nn m : Nat), cs = [.m j] ∧ TabAt C N μ j n R bs os D ∧ Shp nn m R bs os ∧ ∀ d, WrRes nn m R bs os d → A (.d d) μ
def wl1 (nn m : Nat) (R : List (List Int)) (bs : List Int) : List (List Int) := ((List.range m).filter fun i => decide (en R i nn < 0)).map fun i => [bs.getD i 0, (i : Nat), -1]
def wl2 (nn m : Nat) (R : List (List Int)) (os : List Int) : List (List Int) := ((List.range nn).filter fun k => decide (en R m k < 0)).map fun k => [os.getD k 0, -1, (k : Nat)]
theorem h_tab_wrong (C : Addr) (cs : List Cl) (μ : Sto) (A : Cl → Sto → Prop) (er : Er) (h : r_tab_wrong C cs μ A er) : a_tab_wrong C (bodyD μ A (fun _ _ => False)) (startE ns_tab_wrong cs) μ := by
  obtain ⟨N, j, n, R, bs, os, D, nn, m, rfl, ⟨jr, jb, jo, js, T⟩, S, h⟩ := h
  show a_tab_wrong C _ [some (.m j), none, none, none] μ
  have s0 : ∀ (ρ : En), ρ[0]? = some (some (.m j)) → Pu (aVar 0) ρ μ (.m j) := fun ρ h => pu_var h
  have m1 := S.m1
  have n1 := S.n1
  have l1 : (wl1 nn m R bs).length ≤ m := by
    unfold wl1; rw [List.length_map]; exact Nat.le_trans (List.length_filter_le _ _) (by simp)
  have l2 : (wl2 nn m R os).length ≤ nn := by
    unfold wl2; rw [List.length_map]; exact Nat.le_trans (List.length_filter_le _ _) (by simp)
  refine i_slcF (i_rg1 (n := bs.length) (by have := pu_lenC (tx_base T (s0 [some (.m j), none, none, none] rfl)) (cells_m T.base); rwa [List.length_map] at this) (by have := S.bl; omega) ?_)
  rw [S.bl]
  refine lcL_rg (fun i => decide (en R i nn < 0)) (fun i => .d (dL [bs.getD i 0, (i : Nat), -1])) trivial (by omega) (fun i hi => ?_) (fun i hi _ => ?_) ?_
  · exact put (pu_lt (tx_rhs T S (s0 _ rfl) (pu_var rfl) (by omega)) pu_c)
  · exact pu_tup3 (tx_base_at T (s0 _ rfl) (pu_var rfl) (iat (by rw [S.bl]; exact hi))) (pu_var rfl) (pu_neg pu_c)
  refine i_lc_end (ds := (wl1 nn m R bs).map dL) (by unfold wl1; rw [List.map_map, List.map_map]; rfl) ?_
  refine i_sset (c := .d (.list ((wl1 nn m R bs ++ wl2 nn m R os).map dL))) (pu_cat (x := .d (.list ((wl1 nn m R bs).map dL))) (pu_var rfl) (y := .d (.list ((wl2 nn m R os).map dL))) ?_ rfl rfl ?_ ?_) ?_
  · refine pu_lc (cs := ((wl2 nn m R os).map dL).map .d) (fun er Q q => i_rg1 (n := os.length) (by have := pu_lenC (tx_others T (s0 [some (.m j), some (.d (.list ((wl1 nn m R bs).map dL))), none, none] rfl)) (cells_m T.others); rwa [List.length_map] at this) (by have := S.ol; omega) q) (fun Q q => ?_) rfl
    rw [S.ol]
    refine lcL_rg (fun k => decide (en R m k < 0)) (fun k => .d (dL [os.getD k 0, -1, (k : Nat)])) trivial (by omega) (fun i hi => ?_) (fun i hi _ => ?_) ?_
    · exact put (pu_lt (tx_bot T S (s0 _ rfl) (pu_var rfl) (by omega)) pu_c)
    · exact pu_tup3 (tx_others_at T (s0 _ rfl) (pu_var rfl) (iat (by rw [S.ol]; exact hi))) (pu_neg pu_c) (pu_var rfl)
    have e2 : (((List.range nn).filter fun k => decide (en R m k < 0)).map fun k => Cl.d (dL [os.getD k 0, -1, (k : Nat)])) = ((wl2 nn m R os).map dL).map .d := by
      unfold wl2; rw [List.map_map, List.map_map]; rfl
    rw [e2]; exact q
  · simp only [List.length_map]; omega
  · simp only [List.map_append]
  generalize hL : wl1 nn m R bs ++ wl2 nn m R os = L
  have mem1 : ∀ i, i < m → en R i nn < 0 → [bs.getD i 0, (i : Nat), -1] ∈ L := fun i hi hx => by
    rw [← hL]; exact List.mem_append_left _ (List.mem_map.mpr ⟨i, List.mem_filter.mpr ⟨List.mem_range.mpr hi, by simpa using hx⟩, rfl⟩)
  have mem2 : ∀ k, k < nn → en R m k < 0 → [os.getD k 0, -1, (k : Nat)] ∈ L := fun k hk hx => by
    rw [← hL]; exact List.mem_append_right _ (List.mem_map.mpr ⟨k, List.mem_filter.mpr ⟨List.mem_range.mpr hk, by simpa using hx⟩, rfl⟩)
  refine i_sifN (put (pu_eqI (pu_lenC (x := .d (.list (L.map dL))) (pu_var rfl) rfl) pu_c)) (fun hk => ?_) (fun hk => ?_)
  · have hz : L = [] := by
      have : ((((L.map dL).map Cl.d).length : Nat) : Int) = 0 := by simpa using hk
      simp only [List.length_map] at this
      exact List.eq_nil_of_length_eq_zero (by omega)
    refine i_ret pu_c (.inl (h _ (.none (fun i hi => ?_) fun k hk' => ?_)))
    · rcases Int.lt_or_le (en R i nn) 0 with z | z
      · have := mem1 i hi z; rw [hz] at this; cases this
      · exact z
    · rcases Int.lt_or_le (en R m k) 0 with z | z
      · have := mem2 k hk' z; rw [hz] at this; cases this
      · exact z
  · have hz : L ≠ [] := by
      rintro rfl
      exact absurd hk (by decide)
    refine pu_min (c := .d (.list (L.map dL))) (L := L) _ _ (pu_var rfl) rfl rfl hz (fun y hy => ?_) (fun r hr hmin => .inl (h _ ?_))
    · rw [← hL] at hy
      rcases List.mem_append.mp hy with hy | hy
      · obtain ⟨i, _, rfl⟩ := List.mem_map.mp hy; exact List.cons_ne_nil _ _
      · obtain ⟨i, _, rfl⟩ := List.mem_map.mp hy; exact List.cons_ne_nil _ _
    · have a1 : ∀ i, i < m → en R i nn < 0 → r.headD 0 ≤ bs.getD i 0 := fun i hi hx => hmin _ (mem1 i hi hx)
      have a2 : ∀ k, k < nn → en R m k < 0 → r.headD 0 ≤ os.getD k 0 := fun k hk hx => hmin _ (mem2 k hk hx)
      rw [← hL] at hr
      rcases List.mem_append.mp hr with hr | hr
      · obtain ⟨i, hi, rfl⟩ := List.mem_map.mp hr
        obtain ⟨hi, hx⟩ := List.mem_filter.mp hi
        exact .row i (List.mem_range.mp hi) (by simpa using hx) a1 a2
      · obtain ⟨i, hi, rfl⟩ := List.mem_map.mp hr
        obtain ⟨hi, hx⟩ := List.mem_filter.mp hi
        exact .col i (List.mem_range.mp hi) (by simpa using hx) a1 a2
end Jh

set_option Elab.async false
set_option linter.all false
set_option maxRecDepth 100000
set_option maxHeartbeats 4000000
namespace Jh
open PySem PySem.Spec PyProof.Rows L2
open LP (gi gn All2)
/-! ### changes of a tableau in the store -/
theorem All2.imp {α β : Type} {R R' : α → β → Prop} : ∀ {l : List α} {m : List β}, All2 R l m → (∀ a b, a ∈ l → R a b → R' a b) → All2 R' l m
  | _, _, .nil, _ => .nil
  | _, _, .cons r t, h => .cons (h _ _ List.mem_cons_self r) (All2.imp t fun a b ha => h a b (List.mem_cons_of_mem _ ha))
theorem nodup_set {l : List Nat} {f : Nat} (h : l.Nodup) (hf : f ∉ l) : ∀ i, (l.set i f).Nodup := by
  induction l with
  | nil => intro i; exact h
  | cons x l ih =>
    intro i
    obtain ⟨h1, h2⟩ := List.nodup_cons.mp h
    cases i with
    | zero => exact List.nodup_cons.mpr ⟨fun z => hf (List.mem_cons_of_mem _ z), h2⟩
    | succ i =>
      refine List.nodup_cons.mpr ⟨fun z => ?_, ih h2 (fun z => hf (List.mem_cons_of_mem _ z)) i⟩
      rcases List.mem_or_eq_of_mem_set z with z | z
      · exact h1 z
      · exact hf (by rw [z]; exact List.mem_cons_self)
theorem mem_ne {l : List Nat} {x a : Nat} (ha : a ∈ l) (h : x ∉ l) : a ≠ x := fun e => h (e ▸ ha)
section
variable {C : Addr} {N j jr jb jo : Nat} {js : List Nat} {μ : Sto} {n D : Int} {R : List (List Int)} {bs os : List Int}
variable (T : TabX C N μ j n R bs os D jr jb jo js)
include T
theorem TabX.ne {f x : Nat} (hf : f ∉ j :: jr :: jb :: jo :: js) (hx : x ∈ j :: jr :: jb :: jo :: js) : x ≠ f := fun e => hf (e ▸ hx)
theorem TabX.lt {x : Nat} (hx : x ∈ j :: jr :: jb :: jo :: js) : x < μ.length := by
  rcases List.mem_cons.mp hx with rfl | hx
  · exact at_lt T.obj
  rcases List.mem_cons.mp hx with rfl | hx
  · exact at_lt T.rows
  rcases List.mem_cons.mp hx with rfl | hx
  · exact at_lt T.base
  rcases List.mem_cons.mp hx with rfl | hx
  · exact at_lt T.others
  obtain ⟨b, _, hb⟩ := T.at_.memL hx
  exact at_lt hb
theorem TabX.new : μ.length ∉ j :: jr :: jb :: jo :: js := fun h => Nat.lt_irrefl _ (T.lt h)
theorem TabX.map {μ' : Sto} (h : ∀ x ∈ j :: jr :: jb :: jo :: js, ∀ o, μ[x]? = some o → μ'[x]? = some o) : TabX C N μ' j n R bs os D jr jb jo js :=
  ⟨h j (by simp) _ T.obj, h jr (by simp) _ T.rows, h jb (by simp) _ T.base, h jo (by simp) _ T.others, All2.imp T.at_ fun a b ha hb => h a (by simp [ha]) _ hb, T.nd, T.ge⟩
theorem TabX.app {o : MO} : TabX C N (μ ++ [o]) j n R bs os D jr jb jo js := T.map fun x _ o h => at_app h
theorem TabX.other {f : Nat} {o : MO} (hf : f ∉ j :: jr :: jb :: jo :: js) : TabX C N (μ.set f o) j n R bs os D jr jb jo js := T.map fun x hx o h => by rw [at_ne (T.ne hf hx)]; exact h
theorem TabX.setRow {f i : Nat} {row : List Int} (hf : f ∉ j :: jr :: jb :: jo :: js) (hN : N ≤ f) (hr : μ[f]? = some (.lst (iL row))) : TabX C N (μ.set jr (.lst ((js.set i f).map .m))) j n (R.set i row) bs os D jr jb jo (js.set i f) := by
  have nd := T.nd
  simp only [List.nodup_cons, List.mem_cons, not_or] at nd
  have hjr : f ≠ jr := fun e => hf (by simp [e])
  have ex : (j :: jr :: jb :: jo :: js.set i f) = (j :: jr :: jb :: jo :: js).set (i + 4) f := rfl
  refine ⟨?_, at_same T.rows, ?_, ?_, ?_, by rw [ex]; exact nodup_set T.nd hf _, fun x hx => ?_⟩
  · rw [at_ne nd.1.1]; exact T.obj
  · rw [at_ne (Ne.symm nd.2.1.1)]; exact T.base
  · rw [at_ne (Ne.symm nd.2.1.2.1)]; exact T.others
  · refine All2.set ?_ i (All2.imp T.at_ fun a b ha hb => ?_)
    · rw [at_ne hjr]; exact hr
    · rw [at_ne (mem_ne ha nd.2.1.2.2)]; exact hb
  · rw [ex] at hx
    rcases List.mem_or_eq_of_mem_set hx with hx | hx
    · exact T.ge x hx
    · rw [hx]; exact hN
theorem TabX.setEnt {a i : Nat} {row : List Int} (hi : js[i]? = some a) : TabX C N (μ.set a (.lst (iL row))) j n (R.set i row) bs os D jr jb jo js := by
  have nd := T.nd
  simp only [List.nodup_cons, List.mem_cons, not_or] at nd
  have ha := List.mem_of_getElem? hi
  refine ⟨?_, ?_, ?_, ?_, ?_, T.nd, T.ge⟩
  · rw [at_ne (Ne.symm (mem_ne ha nd.1.2.2.2))]; exact T.obj
  · rw [at_ne (Ne.symm (mem_ne ha nd.2.1.2.2))]; exact T.rows
  · rw [at_ne (Ne.symm (mem_ne ha nd.2.2.1.2))]; exact T.base
  · rw [at_ne (Ne.symm (mem_ne ha nd.2.2.2.1))]; exact T.others
  · have key : ∀ {js : List Nat} {R : List (List Int)} {i : Nat}, js.Nodup → js[i]? = some a → RowsAt μ js R → RowsAt (μ.set a (.lst (iL row))) js (R.set i row) := by
      intro js R i hnd hi h
      induction h generalizing i with
      | nil => exact .nil
      | cons hx ht ih =>
        obtain ⟨n1, n2⟩ := List.nodup_cons.mp hnd
        cases i with
        | zero =>
          simp at hi
          subst hi
          refine .cons (at_same hx) (All2.imp ht fun b r hb hr => ?_)
          rw [at_ne (mem_ne hb n1)]; exact hr
        | succ i =>
          have hi' := show _ = some a from by simpa using hi
          refine .cons ?_ (ih n2 hi')
          rw [at_ne (Ne.symm (mem_ne (List.mem_of_getElem? hi') n1))]; exact hx
    exact key nd.2.2.2.2 hi T.at_
theorem TabX.setDiv {D' : Int} : TabX C N (μ.set j (.ins C (flds n jr jb jo D'))) j n R bs os D' jr jb jo js := by
  have nd := T.nd
  simp only [List.nodup_cons, List.mem_cons, not_or] at nd
  refine ⟨at_same T.obj, ?_, ?_, ?_, All2.imp T.at_ fun a b ha hb => ?_, T.nd, T.ge⟩
  · rw [at_ne (Ne.symm nd.1.1)]; exact T.rows
  · rw [at_ne (Ne.symm nd.1.2.1)]; exact T.base
  · rw [at_ne (Ne.symm nd.1.2.2.1)]; exact T.others
  · rw [at_ne (mem_ne ha nd.1.2.2.2)]; exact hb
theorem TabX.setBase {bs' : List Int} : TabX C N (μ.set jb (.lst (iL bs'))) j n R bs' os D jr jb jo js := by
  have nd := T.nd
  simp only [List.nodup_cons, List.mem_cons, not_or] at nd
  refine ⟨?_, ?_, at_same T.base, ?_, All2.imp T.at_ fun a b ha hb => ?_, T.nd, T.ge⟩
  · rw [at_ne nd.1.2.1]; exact T.obj
  · rw [at_ne nd.2.1.1]; exact T.rows
  · rw [at_ne (Ne.symm nd.2.2.1.1)]; exact T.others
  · rw [at_ne (mem_ne ha nd.2.2.1.2)]; exact hb
theorem TabX.setOthers {os' : List Int} : TabX C N (μ.set jo (.lst (iL os'))) j n R bs os' D jr jb jo js := by
  have nd := T.nd
  simp only [List.nodup_cons, List.mem_cons, not_or] at nd
  refine ⟨?_, ?_, ?_, at_same T.others, All2.imp T.at_ fun a b ha hb => ?_, T.nd, T.ge⟩
  · rw [at_ne nd.1.2.2.1]; exact T.obj
  · rw [at_ne nd.2.1.2.1]; exact T.rows
  · rw [at_ne nd.2.2.1.1]; exact T.base
  · rw [at_ne (mem_ne ha nd.2.2.2.1)]; exact hb
/-- a new list of new rows -/
theorem TabX.newRows {jr' : Nat} {js' : List Nat} {R' : List (List Int)} (h : μ[jr']? = some (.lst (js'.map .m))) (hR : RowsAt μ js' R') (nd' : (jr' :: js').Nodup) (hn : ∀ x ∈ jr' :: js', x ∉ j :: jr :: jb :: jo :: js) (hg : ∀ x ∈ jr' :: js', N ≤ x) :
    TabX C N (μ.set j (.ins C (flds n jr' jb jo D))) j n R' bs os D jr' jb jo js' := by
  have nd := T.nd
  simp only [List.nodup_cons, List.mem_cons, not_or] at nd
  have hne : ∀ x ∈ jr' :: js', x ≠ j := fun x hx e => hn x hx (by simp [e])
  refine ⟨at_same T.obj, ?_, ?_, ?_, All2.imp hR fun a b ha hb => ?_, ?_, fun x hx => ?_⟩
  · rw [at_ne (hne jr' List.mem_cons_self)]; exact h
  · rw [at_ne (Ne.symm nd.1.2.1)]; exact T.base
  · rw [at_ne (Ne.symm nd.1.2.2.1)]; exact T.others
  · rw [at_ne (hne a (List.mem_cons_of_mem _ ha))]; exact hb
  · obtain ⟨d1, d2⟩ := List.nodup_cons.mp nd'
    have e1 : ∀ x, x ∈ j :: jr :: jb :: jo :: js → x ≠ jr' ∧ x ∉ js' := fun x hx => ⟨fun e => hn jr' List.mem_cons_self (e ▸ hx), fun z => hn x (List.mem_cons_of_mem _ z) hx⟩
    have a1 := e1 j (by simp)
    have a2 := e1 jb (by simp)
    have a3 := e1 jo (by simp)
    simp only [List.nodup_cons, List.mem_cons, not_or]
    exact ⟨⟨a1.1, nd.1.2.1, nd.1.2.2.1, a1.2⟩, ⟨Ne.symm a2.1, Ne.symm a3.1, d1⟩, ⟨nd.2.2.1.1, a2.2⟩, a3.2, d2⟩
  · rcases List.mem_cons.mp hx with rfl | hx
    · exact T.ge x (by simp)
    rcases List.mem_cons.mp hx with rfl | hx
    · exact hg x (by simp)
    rcases List.mem_cons.mp hx with rfl | hx
    · exact T.ge x (by simp)
    rcases List.mem_cons.mp hx with rfl | hx
    · exact T.ge x (by simp)
    · exact hg x (by simp [hx])
end
section
variable {a b : AX} {ρ : En} {μ : Sto} {c x y : Cl} {C : Addr} {D : AD} {s u : ASt} {t : AT} {i f : Nat} {cs : List Cl} {Q : En → Sto → Prop}
theorem ixN_nat {len i : Nat} (h : i < len) : ixN len (i : Int) = some i := by
  unfold ixN
  rw [if_pos (by omega), if_pos (by omega), Int.toNat_natCast]
theorem i_gIx {k : Int} (ha : Pu a ρ μ (.m f)) (hb : Pu b ρ μ (.d (.int k))) (h : μ[f]? = some (.lst cs)) (hi : ixN cs.length k = some i) (q : Q ρ (μ.set f (.lst (cs.set i c)))) : gIx a b c ρ μ Q := ha _ _ (hb _ _ (by
  show match μ[f]? with | some (.lst cs) => (match ixN cs.length k with | some n => Q ρ (μ.set f (.lst (cs.set n c))) | none => False) | _ => False
  rw [h]
  show match ixN cs.length k with | some n => Q ρ (μ.set f (.lst (cs.set n c))) | none => False
  rw [hi]; exact q))
theorem i_sgIx {e : AX} {k : Int} (he : Pu e ρ μ c) (ha : Pu a ρ μ (.m f)) (hb : Pu b ρ μ (.d (.int k))) (h : μ[f]? = some (.lst cs)) (hi : ixN cs.length k = some i) (q : D.nx ρ (μ.set f (.lst (cs.set i c)))) : sAsg e (gIx a b) D ρ μ := he D.er _ (i_gIx ha hb h hi q)
theorem i_ssgIx {e : AX} {k : Int} (he : Pu e ρ μ c) (ha : Pu a ρ μ (.m f)) (hb : Pu b ρ μ (.d (.int k))) (h : μ[f]? = some (.lst cs)) (hi : ixN cs.length k = some i) (q : u D ρ (μ.set f (.lst (cs.set i c)))) : sSeq (sAsg e (gIx a b)) u D ρ μ := he D.er _ (i_gIx ha hb h hi q)
theorem i_slcO {j : Nat} {vs : List Nat} {I : AI} (h : I D.er ρ μ fun xs st μ1 => lcL j (wipeE ρ vs) t a st (fun cs μ2 => u D (ρ.set i (some (.m μ2.length))) (μ2 ++ [.lst cs])) xs [] μ1) : sSeq (sLcO i (aLc j vs I t a)) u D ρ μ := h
theorem i_fldS {j : Nat} {fn : Str} {fs : List (Str × Cl)} (hb : Pu b ρ μ c) (ha : Pu a ρ μ (.m j)) (h : μ[j]? = some (.ins C fs)) (hl : fs.length < 1000) (q : D.nx ρ (μ.set j (.ins C (putC fn c fs)))) : sFldS C fn a b D ρ μ := hb _ _ (ha _ _ (by
  show match μ[j]? with | some (.ins C' fs) => C' = C ∧ fs.length < 1000 ∧ D.nx ρ (μ.set j (.ins C (putC fn c fs))) | _ => False
  rw [h]; exact ⟨rfl, hl, q⟩))
theorem i_sfldS {j : Nat} {fn : Str} {fs : List (Str × Cl)} (hb : Pu b ρ μ c) (ha : Pu a ρ μ (.m j)) (h : μ[j]? = some (.ins C fs)) (hl : fs.length < 1000) (q : u D ρ (μ.set j (.ins C (putC fn c fs)))) : sSeq (sFldS C fn a b) u D ρ μ := i_fldS hb ha h hl q
end
theorem putC_div (n : Int) (jr jb jo : Nat) (D D' : Int) : putC "divisor" (.d (.int D')) (flds n jr jb jo D) = flds n jr jb jo D' := by
  have h1 : ¬ (("many" : Str) = "divisor") := by decide +kernel
  have h2 : ¬ (("rows" : Str) = "divisor") := by decide +kernel
  have h3 : ¬ (("base" : Str) = "divisor") := by decide +kernel
  have h4 : ¬ (("others" : Str) = "divisor") := by decide +kernel
  simp only [flds, putC, if_neg h1, if_neg h2, if_neg h3, if_neg h4, if_true]
theorem putC_rows (n : Int) (jr jr' jb jo : Nat) (D : Int) : putC "rows" (.m jr') (flds n jr jb jo D) = flds n jr' jb jo D := by
  have h1 : ¬ (("many" : Str) = "rows") := by decide +kernel
  simp only [flds, putC, if_neg h1, if_true]
end Jh

set_option Elab.async false
set_option linter.all false
set_option maxRecDepth 100000
set_option maxHeartbeats 4000000
namespace Jh
open PySem PySem.Spec PyProof.Rows L2
open LP (gi gn All2 sg)
/-! ### pivot -/
/-- the rows behind a pivot, before the signs -/
def pivR1 (R : List (List Int)) (r k : Nat) (D : Int) : List (List Int) := (R.map (LP.upd (en R r k) D k (R.getD r []))).set r ((R.getD r []).set k D)
def pivR2 (R : List (List Int)) (r k : Nat) (D : Int) : List (List Int) := (pivR1 R r k D).map (sg (en R r k))
def r_tab_pivot (C : Addr) : RS := fun cs μ A _ => ∃ (N j : Nat) (n : Int) (R : List (List Int)) (bs os : List Int) (D : Int) (nn m r k : Nat), cs = [.m j, .d (.int (r : Nat)), .d (.int (k : Nat))] ∧ N ≤ μ.length ∧ TabAt C N μ j n R bs os D ∧ Shp nn m R bs os ∧
  (∀ i l, i < m + 1 → l < nn + 1 → -1000 ≤ en R i l ∧ en R i l ≤ 1000) ∧ 1 ≤ D ∧ D ≤ 1000 ∧ r < m ∧ k < nn ∧
  ∀ μ', Fr N μ μ' → TabAt C N μ' j n (pivR2 R r k D) (bs.set r (os.getD k 0)) (os.set k (bs.getD r 0)) (if en R r k < 0 then -(en R r k) else en R r k) → A (.d .none) μ'
theorem len_upd {p D : Int} {k : Nat} {mid row : List Int} (h : row.length = mid.length) : (LP.upd p D k mid row).length = row.length := by
  unfold LP.upd
  rw [List.length_set, List.length_zipWith, h, Nat.min_self]
theorem lcL_cells {j : Nat} {ρ : En} {a : AX} {st : Sto → Prop} {Q : List Cl → Sto → Prop} {μ : Sto} (f : Int → Int) (hs : st μ) : ∀ (l : List Int) (acc : List Cl), (∀ x ∈ l, Pu a (ρ.set j (some (.d (.int x)))) μ (.d (.int (f x)))) → acc.length + l.length ≤ 1000 →
    Q (acc ++ iL (l.map f)) μ → lcL j ρ aYes a st Q (iL l) acc μ
  | [], acc, _, _, h => ⟨hs, by simpa using h⟩
  | x :: l, acc, ha, hl, h => by
    refine ⟨hs, by simp at hl; omega, ?_⟩
    refine ha x List.mem_cons_self _ _ (lcL_cells f hs l (acc ++ [.d (.int (f x))]) (fun y hy => ha y (List.mem_cons_of_mem _ hy)) (by simp at hl ⊢; omega) ?_)
    simpa using h
/-- the loop over the rows -/
theorem piv_loop {C : Addr} {N j : Nat} {n : Int} {R : List (List Int)} {bs os : List Int} {D : Int} {nn m r k am : Nat} {μ0 : Sto} {st : Sto → Prop} {Z : AD} (S : Shp nn m R bs os) (hs : ∀ μ, st μ) (hb : ∀ i l, i < m + 1 → l < nn + 1 → -1000 ≤ en R i l ∧ en R i l ≤ 1000)
    (D1 : 1 ≤ D) (D2 : D ≤ 1000) (hr : r < m) (hk : k < nn) (hZ : ∀ μ' o5 o6 o7 jr jb jo js, Fr N μ0 μ' → TabX C N μ' j n ((R.map (LP.upd (en R r k) D k (R.getD r []))).set r (R.getD r [])) bs os D jr jb jo js → js[r]? = some am →
      Z.nx [some (.m j), some (.d (.int (r : Nat))), some (.d (.int (k : Nat))), some (.m am), some (.d (.int (en R r k))), o5, o6, o7, none, none] μ') :
    ∀ (q i : Nat) (μ : Sto) (o5 o6 o7 : Option Cl) (R1 : List (List Int)) (jr jb jo : Nat) (js : List Nat), i + q = m + 1 → Fr N μ0 μ → TabX C N μ j n R1 bs os D jr jb jo js → js[r]? = some am → R1.length = m + 1 →
      (∀ x, x < m + 1 → R1.getD x [] = if x < i ∧ x ≠ r then LP.upd (en R r k) D k (R.getD r []) (R.getD x []) else R.getD x []) →
      forL (gN 5) (sIf (aTest (aOp (fEq true) (aVar 5) (aVar 1))) (sSeq (sAsg (aIx (aFld C "rows" (aVar 0)) (aVar 5)) (gN 6))
    (sSeq (sLcO 7 (aLc 8 [8] (aRg1 (aCons (aCB fLen (aCons (aVar 6) aNil)) aNil)) aYes (aOp fDiv (aOp fSub (aOp fMul (aIx (aVar 6) (aVar 8)) (aVar 4)) (aOp fMul (aIx (aVar 6) (aVar 2)) (aIx (aVar 3) (aVar 8)))) (aFld C "divisor" (aVar 0)))))
    (sSeq (sAsg (aNeg (aIx (aVar 6) (aVar 2))) (gIx (aVar 7) (aVar 2)))
    (sAsg (aVar 7) (gIx (aFld C "rows" (aVar 0)) (aVar 5)))))) sNext) st Z ((List.range' i q).map fun i => Cl.d (.int (i : Nat)))
      [some (.m j), some (.d (.int (r : Nat))), some (.d (.int (k : Nat))), some (.m am), some (.d (.int (en R r k))), o5, o6, o7, none, none] μ
  | 0, i, μ, o5, o6, o7, R1, jr, jb, jo, js, e, fr, T, ham, hl, hR => by
    refine ⟨hs μ, hZ μ o5 o6 o7 jr jb jo js fr ?_ ham⟩
    have : R1 = (R.map (LP.upd (en R r k) D k (R.getD r []))).set r (R.getD r []) := by
      apply List.ext_getElem?
      intro x
      by_cases hx : x < m + 1
      · have h1 := hR x hx
        have h2 : R1[x]? = some (R1.getD x []) := by rw [List.getD_eq_getElem?_getD, List.getElem?_eq_getElem (by omega)]; rfl
        have h3 := (S.get hx).1
        rw [h2, h1]
        by_cases hxr : x = r
        · subst hxr
          rw [if_neg (by simp), List.getElem?_set_self (by rw [List.length_map, S.rl]; exact hx)]
        · rw [if_pos ⟨by omega, hxr⟩, List.getElem?_set_ne (Ne.symm hxr), List.getElem?_map, h3]; rfl
      · rw [List.getElem?_eq_none (by omega), List.getElem?_eq_none (by rw [List.length_set, List.length_map, S.rl]; omega)]
    rw [← this]; exact T
  | q + 1, i, μ, o5, o6, o7, R1, jr, jb, jo, js, e, fr, T, ham, hl, hR => by
    have hi : i < m + 1 := by omega
    rw [List.range'_succ]
    refine ⟨hs μ, ?_⟩
    refine i_if (put (pu_eqI (i := (i : Nat)) (j := (r : Nat)) (pu_var rfl) (pu_var rfl))) (fun hne => ?_) (fun heq => ?_)
    · have hir : i ≠ r := fun z => by subst z; simp at hne
      have g1 : R1[i]? = some (R1.getD i []) := by rw [List.getD_eq_getElem?_getD, List.getElem?_eq_getElem (by omega)]; rfl
      have eR : R1.getD i [] = R.getD i [] := by rw [hR i hi, if_neg (by omega)]
      rw [eR] at g1
      have li := (S.get hi).2
      have lr := (S.get (i := r) (by omega)).2
      obtain ⟨ai, ha1, ha2⟩ := tx_row T g1
      have g2 : R1[r]? = some (R.getD r []) := by
        rw [show R1[r]? = some (R1.getD r []) by rw [List.getD_eq_getElem?_getD, List.getElem?_eq_getElem (by omega)]; rfl, hR r (by omega), if_neg (by simp)]
      obtain ⟨am', hm1, hm2⟩ := tx_row T g2
      rw [ham] at hm1
      cases hm1
      refine i_sset (tx_row_at T (pu_var rfl) (pu_var rfl) ha1) ?_
      -- the row anew
      have bd := hb i
      have n1 := S.n1
      refine i_slcO (i_rg1 (n := (R.getD i []).length) (by have := pu_lenC (pu_var (ρ := [some (.m j), some (.d (.int (r : Nat))), some (.d (.int (k : Nat))), some (.m am), some (.d (.int (en R r k))), some (.d (.int (i : Nat))), some (.m ai), o7, none, none]) (i := 6) (μ := μ) rfl) (cells_m ha2); rwa [List.length_map] at this) (by omega) ?_)
      rw [li]
      have hp := hb r k (by omega) (by omega)
      have hc := hb i k hi (by omega)
      refine lcL_rg (fun _ => true) (fun l => .d (.int ((en R i l * en R r k - en R i k * en R r l) / D))) trivial (by omega) (fun l hl => put_yes) (fun l hl _ => ?_) ?_
      · refine pu_div (pu_sub (pu_mul (ent_at (pu_var rfl) ha2 (pu_var rfl) (gi_get (by omega))) (pu_var rfl) (mulR (by omega))) (pu_mul (ent_at (pu_var rfl) ha2 (pu_var rfl) (gi_get (by omega))) (ent_at (pu_var rfl) hm2 (pu_var rfl) (gi_get (by omega))) (mulL (by omega)))) (tx_div T (pu_var rfl)) (divOk (by omega))
      have efil : (List.range (nn + 1)).filter (fun _ => true) = List.range (nn + 1) := List.filter_eq_self.mpr fun _ _ => rfl
      rw [efil]
      have ez : ((List.range (nn + 1)).map fun l => Cl.d (.int ((en R i l * en R r k - en R i k * en R r l) / D))) = iL (List.zipWith (fun x y => (x * en R r k - gi (R.getD i []) k * y) / D) (R.getD i []) (R.getD r [])) := by
        apply List.ext_getElem?
        intro l
        by_cases hl : l < nn + 1
        · have z1 : (List.zipWith (fun x y => (x * en R r k - gi (R.getD i []) k * y) / D) (R.getD i []) (R.getD r []))[l]? = some ((en R i l * en R r k - en R i k * en R r l) / D) := by
            rw [List.getElem?_zipWith, gi_get (r := R.getD i []) (by omega), gi_get (r := R.getD r []) (by omega)]; rfl
          rw [List.getElem?_map, List.getElem?_range hl, List.getElem?_map, z1]; rfl
        · rw [List.getElem?_eq_none (by simp; omega), List.getElem?_eq_none (by rw [List.length_map, List.length_zipWith]; omega)]
      rw [ez]
      have T1 := T.app (o := .lst (iL (List.zipWith (fun x y => (x * en R r k - gi (R.getD i []) k * y) / D) (R.getD i []) (R.getD r []))))
      have nw : μ.length ∉ j :: jr :: jb :: jo :: js := T.new
      have a2' := at_app (o' := .lst (iL (List.zipWith (fun x y => (x * en R r k - gi (R.getD i []) k * y) / D) (R.getD i []) (R.getD r [])))) ha2
      refine i_ssgIx (cs := iL (List.zipWith (fun x y => (x * en R r k - gi (R.getD i []) k * y) / D) (R.getD i []) (R.getD r []))) (k := (k : Nat)) (i := k) (f := μ.length) (pu_neg (ent_at (pu_var rfl) a2' (pu_var rfl) (gi_get (by omega)))) (pu_var rfl) (pu_var rfl) at_new (ixN_nat (by rw [List.length_map, List.length_zipWith, li, lr]; omega)) ?_
      have T2 := T1.other (f := μ.length) (o := .lst ((iL (List.zipWith (fun x y => (x * en R r k - gi (R.getD i []) k * y) / D) (R.getD i []) (R.getD r []))).set k (.d (.int (-(gi (R.getD i []) k)))))) nw
      have eu : (iL (List.zipWith (fun x y => (x * en R r k - gi (R.getD i []) k * y) / D) (R.getD i []) (R.getD r []))).set k (.d (.int (-(gi (R.getD i []) k)))) = iL (LP.upd (en R r k) D k (R.getD r []) (R.getD i [])) := by
        unfold LP.upd
        exact List.map_set.symm
      rw [eu] at T2 ⊢
      refine i_sgIx (cs := js.map .m) (k := (i : Nat)) (i := i) (f := jr) (c := .m μ.length) (pu_var rfl) (tx_rows T2 (pu_var rfl)) (pu_var rfl) T2.rows (ixN_nat (by rw [List.length_map, js_len' T hl]; exact hi)) ?_
      have nN : N ≤ μ.length := fr.l
      have T3 := T2.setRow (i := i) (row := LP.upd (en R r k) D k (R.getD r []) (R.getD i [])) nw nN (at_same at_new)
      rw [List.map_set] at T3
      refine piv_loop S hs hb D1 D2 hr hk hZ q (i + 1) _ _ _ _ _ _ _ _ _ (by omega) ((fr.app.set nN).set (T2.ge jr (by simp))) T3 (by rw [List.getElem?_set_ne hir]; exact ham) (by rw [List.length_set]; exact hl) (fun x hx => ?_)
      by_cases hxi : x = i
      · subst hxi
        rw [if_pos ⟨by omega, hir⟩, List.getD_eq_getElem?_getD, List.getElem?_set_self (by omega)]; rfl
      · have := hR x hx
        rw [List.getD_eq_getElem?_getD, List.getElem?_set_ne (Ne.symm hxi), ← List.getD_eq_getElem?_getD, this]
        by_cases hxr : x = r
        · simp [hxr]
        · by_cases hxi2 : x < i
          · rw [if_pos ⟨hxi2, hxr⟩, if_pos ⟨by omega, hxr⟩]
          · rw [if_neg (by omega), if_neg (by omega)]
    · have hir : i = r := by
        simp at heq
        omega
      refine piv_loop S hs hb D1 D2 hr hk hZ q (i + 1) μ _ _ _ R1 jr jb jo js (by omega) fr T ham hl (fun x hx => ?_)
      rw [hR x hx]
      by_cases hxr : x = r
      · simp [hxr]
      · by_cases hxi2 : x < i
        · rw [if_pos ⟨hxi2, hxr⟩, if_pos ⟨by omega, hxr⟩]
        · rw [if_neg (by omega), if_neg (by omega)]
where
  js_len' {C : Addr} {N j : Nat} {n : Int} {R1 : List (List Int)} {bs os : List Int} {D : Int} {m jr jb jo : Nat} {js : List Nat} {μ : Sto} (T : TabX C N μ j n R1 bs os D jr jb jo js) (h : R1.length = m + 1) : js.length = m + 1 := by
    rw [LP.All2.len T.at_, h]
end Jh

set_option Elab.async false
set_option linter.all false
set_option maxRecDepth 100000
set_option maxHeartbeats 4000000
namespace Jh
open PySem PySem.Spec PyProof.Rows L2
open LP (gi gn All2 sg)
section
variable {a b : AX} {ρ : En} {μ : Sto} {c x y : Cl} {C : Addr} {D : AD} {s u : ASt} {t : AT} {g g1 g2 g3 : AG} {i f : Nat} {Q : En → Sto → Prop} {I : AI} {d1 d2 d3 : PyData}
theorem i_sfor (h : I D.er ρ μ fun xs st μ1 => forL g s st { D with nx := fun ρ μ => u D ρ μ } xs ρ μ1) : sSeq (sFor I g s) u D ρ μ := h
theorem i_gs2 (h : g1 (.d d1) ρ μ fun ρ1 μ1 => g2 (.d d2) ρ1 μ1 Q) : gTu 2 (gsCons g1 (gsCons g2 gsNil)) (.d (.tuple [d1, d2])) ρ μ Q := And.intro rfl h
theorem i_gs3 (h : g1 (.d d1) ρ μ fun ρ1 μ1 => g2 (.d d2) ρ1 μ1 fun ρ2 μ2 => g3 (.d d3) ρ2 μ2 Q) : gTu 3 (gsCons g1 (gsCons g2 (gsCons g3 gsNil))) (.d (.tuple [d1, d2, d3])) ρ μ Q := And.intro rfl h
end
theorem i_fldO {D : AD} {C : Addr} {fn : Str} {a e : AX} {ρ : En} {μ : Sto} {j : Nat} {vs : List Nat} {I : AI} {t : AT} (h : I D.er ρ μ fun xs st μ1 => lcL j (wipeE ρ vs) t e st (fun cs μ2 => a D.er ρ (μ2 ++ [.lst cs]) fun x μ3 => match x with
  | .m jj => (match μ3[jj]? with
    | some (.ins C' fs) => C' = C ∧ fs.length < 1000 ∧ D.nx ρ (μ3.set jj (.ins C (putC fn (.m μ2.length) fs)))
    | _ => False)
  | _ => False) xs [] μ1) : sFldS C fn a (aOwn (aLc j vs I t e)) D ρ μ := h
theorem at_mid {μ L M : Sto} {i : Nat} {o : MO} (h : L[i]? = some o) : (μ ++ L ++ M)[μ.length + i]? = some o := by
  have hi := (List.getElem?_eq_some_iff.mp h).1
  rw [List.append_assoc, List.getElem?_append_right (by omega), Nat.add_sub_cancel_left, List.getElem?_append_left hi]
  exact h
theorem at_appL {μ L : Sto} {a : Nat} {o : MO} (h : μ[a]? = some o) : (μ ++ L)[a]? = some o := by
  rw [List.getElem?_append_left (List.getElem?_eq_some_iff.mp h).1]; exact h
theorem rows_new {μ M : Sto} : ∀ (Rr : List (List Int)) (L : Sto) (n : Nat), n = μ.length + L.length → RowsAt (μ ++ (L ++ (Rr.map fun r => MO.lst (iL r))) ++ M) (List.range' n Rr.length) Rr
  | [], L, n, _ => .nil
  | r :: Rr, L, n, e => by
    rw [List.length_cons, List.range'_succ]
    refine .cons ?_ ?_
    · rw [e]
      refine at_mid ?_
      rw [List.getElem?_append_right (by omega)]
      simp
    · have := rows_new (μ := μ) (M := M) Rr (L ++ [.lst (iL r)]) (n + 1) (by simp; omega)
      rw [List.append_assoc L] at this
      exact this
theorem neg_loop {ρ : En} {jr : Nat} {cs0 : List Cl} {Q : List Cl → Sto → Prop} (h6 : 9 < ρ.length) : ∀ (js : List Nat) (Rr : List (List Int)) (μ : Sto) (acc : List Cl), RowsAt μ js Rr → μ[jr]? = some (.lst cs0) → acc.length + js.length ≤ 1000 → (∀ r ∈ Rr, r.length ≤ 1000) →
    Q (acc ++ (List.range' μ.length js.length).map .m) (μ ++ ((Rr.map fun r => r.map fun x => -x).map fun r => MO.lst (iL r))) →
    lcL 6 ρ aYes (aOwn (aLc 9 [9] (aSeqI (aVar 6)) aYes (aNeg (aVar 9)))) (stOf (.m jr) cs0) Q (js.map .m) acc μ
  | [], _, μ, acc, .nil, hj, _, _, h => ⟨hj, by simpa using h⟩
  | a :: js, r :: Rr, μ, acc, .cons hx ht, hj, hl, hr, h => by
    refine ⟨hj, by simp at hl; omega, ?_⟩
    have e6 : (ρ.set 6 (some (.m a)))[6]? = some (some (.m a)) := by rw [List.getElem?_set_self (by omega)]
    show aOwn (aLc 9 [9] (aSeqI (aVar 6)) aYes (aNeg (aVar 9))) (fun _ _ => False) (ρ.set 6 (some (.m a))) μ fun c μ2 => lcL 6 ρ aYes _ _ Q (js.map .m) (acc ++ [c]) μ2
    show (aSeqI (aVar 6)) (fun _ _ => False) (ρ.set 6 (some (.m a))) μ fun xs st μ1 => lcL 9 (wipeE (ρ.set 6 (some (.m a))) [9]) aYes (aNeg (aVar 9)) st (fun cs μ2 => lcL 6 ρ aYes _ _ Q (js.map .m) (acc ++ [.m μ2.length]) (μ2 ++ [.lst cs])) xs [] μ1
    refine i_seqI (pu_var e6) (cells_m hx) ?_
    refine lcL_cells (fun x => -x) (show μ[a]? = _ from hx) r [] (fun x _ => pu_neg (pu_var ?_)) (by have := hr r List.mem_cons_self; simpa using this) ?_
    · show (List.set (List.set (ρ.set 6 (some (.m a))) 9 none) 9 (some (.d (.int x))))[9]? = _
      rw [List.getElem?_set_self (by simp only [List.length_set]; exact h6)]
    · rw [List.nil_append]
      have hx2 : RowsAt (μ ++ [.lst (iL (r.map fun x => -x))]) js Rr := All2.imp ht fun b r' _ hb => at_app hb
      refine neg_loop h6 js Rr _ _ hx2 (at_app hj) (by simp at hl ⊢; omega) (fun r' hr' => hr r' (List.mem_cons_of_mem _ hr')) ?_
      have e1 : (List.range' (μ ++ [MO.lst (iL (r.map fun x => -x))]).length js.length) = List.range' (μ.length + 1) js.length := by simp
      rw [e1]
      rw [List.length_cons, List.range'_succ] at h
      simpa using h
theorem h_tab_pivot (C : Addr) (cs : List Cl) (μ : Sto) (A : Cl → Sto → Prop) (er : Er) (h : r_tab_pivot C cs μ A er) : a_tab_pivot C (bodyD μ A (fun _ _ => False)) (startE ns_tab_pivot cs) μ := by
  obtain ⟨N, j, n, R, bs, os, D, nn, m, r, k, rfl, hN, ⟨jr, jb, jo, js, T⟩, S, hb, D1, D2, hr, hk, h⟩ := h
  show a_tab_pivot C _ [some (.m j), some (.d (.int (r : Nat))), some (.d (.int (k : Nat))), none, none, none, none, none, none, none] μ
  have n1 := S.n1
  have m1 := S.m1
  obtain ⟨g1, lr⟩ := S.get (i := r) (by omega)
  obtain ⟨am, ha1, ha2⟩ := tx_row T g1
  refine i_sset (tx_row_at T (pu_var rfl) (pu_var rfl) ha1) ?_
  refine i_sset (ent_at (pu_var rfl) ha2 (pu_var rfl) (gi_get (by omega))) ?_
  have lj := js_len T S
  refine i_sfor (i_rg1 (n := m + 1) (by have := pu_lenC (tx_rows T (a := aVar 0) (ρ := [some (.m j), some (.d (.int (r : Nat))), some (.d (.int (k : Nat))), some (.m am), some (.d (.int (en R r k))), none, none, none, none, none]) (pu_var rfl)) (cells_m T.rows); rwa [List.length_map, lj] at this) (by omega) ?_)
  rw [rgC0, List.range_eq_range']
  refine piv_loop (am := am) (μ0 := μ) S (fun _ => trivial) hb D1 D2 hr hk (fun μ1 o5 o6 o7 jr1 jb1 jo1 js1 fr1 T1 hjs => ?_) (m + 1) 0 μ none none none R jr jb jo js (by omega) (Fr.refl hN) T ha1 S.rl (fun x hx => by rw [if_neg (by omega)])
  have eS := S.rl
  have g2 : ((R.map (LP.upd (en R r k) D k (R.getD r []))).set r (R.getD r []))[r]? = some (R.getD r []) := by rw [List.getElem?_set_self (by rw [List.length_map]; omega)]
  obtain ⟨am', hm1, hm2⟩ := tx_row T1 g2
  rw [hjs] at hm1
  cases hm1
  dsimp only
  refine i_ssgIx (cs := iL (R.getD r [])) (k := (k : Nat)) (i := k) (f := am) (tx_div T1 (pu_var rfl)) (pu_var rfl) (pu_var rfl) hm2 (ixN_nat (by rw [List.length_map]; omega)) ?_
  have T2 := T1.setEnt (row := (R.getD r []).set k D) hjs
  have ge2 : N ≤ am := T1.ge am (by simp [List.mem_of_getElem? hjs])
  have e2 : (iL (R.getD r [])).set k (.d (.int D)) = iL ((R.getD r []).set k D) := List.map_set.symm
  rw [e2]
  rw [List.set_set] at T2
  have fr2 := fr1.set (o := .lst (iL ((R.getD r []).set k D))) ge2
  change TabX C N _ j n (pivR1 R r k D) bs os D jr1 jb1 jo1 js1 at T2
  have len1 : (pivR1 R r k D).length = m + 1 := by unfold pivR1; rw [List.length_set, List.length_map, eS]
  generalize μ1.set am (.lst (iL ((R.getD r []).set k D))) = μ2 at T2 fr2 ⊢
  refine i_sfldS (pu_var rfl) (pu_var rfl) T2.obj (Nat.le_of_ble_eq_true rfl) ?_
  rw [putC_div]
  have T3 := T2.setDiv (D' := en R r k)
  have fr3 := fr2.set (o := .ins C (flds n jr1 jb1 jo1 (en R r k))) (T2.ge j (by simp))
  generalize μ2.set j (.ins C (flds n jr1 jb1 jo1 (en R r k))) = μ3 at T3 fr3 ⊢
  -- the swap at the end
  have swap : ∀ (μ5 : Sto) (jr5 : Nat) (js5 : List Nat) (R5 : List (List Int)) (D5 : Int) (Z : AD), Fr N μ μ5 → TabX C N μ5 j n R5 bs os D5 jr5 jb1 jo1 js5 →
      (∀ μ', Fr N μ μ' → TabAt C N μ' j n R5 (bs.set r (os.getD k 0)) (os.set k (bs.getD r 0)) D5 → Z.nx [some (.m j), some (.d (.int (r : Nat))), some (.d (.int (k : Nat))), some (.m am), some (.d (.int (en R r k))), o5, o6, o7, none, none] μ') →
      sAsg (aTup (aCons (aIx (aFld C "others" (aVar 0)) (aVar 2)) (aCons (aIx (aFld C "base" (aVar 0)) (aVar 1)) aNil))) (gTu 2 (gsCons (gIx (aFld C "base" (aVar 0)) (aVar 1)) (gsCons (gIx (aFld C "others" (aVar 0)) (aVar 2)) gsNil))) Z
        [some (.m j), some (.d (.int (r : Nat))), some (.d (.int (k : Nat))), some (.m am), some (.d (.int (en R r k))), o5, o6, o7, none, none] μ5 := by
    intro μ5 jr5 js5 R5 D5 Z fr5 T5 hZ
    refine i_asg (pu_tup2 (tx_others_at T5 (pu_var rfl) (pu_var rfl) (iat (by rw [S.ol]; exact hk))) (tx_base_at T5 (pu_var rfl) (pu_var rfl) (iat (by rw [S.bl]; exact hr)))) (i_gs2 ?_)
    refine i_gIx (tx_base T5 (pu_var rfl)) (pu_var rfl) T5.base (ixN_nat (by rw [List.length_map, S.bl]; exact hr)) ?_
    have e3 : (iL bs).set r (.d (.int (os.getD k 0))) = iL (bs.set r (os.getD k 0)) := List.map_set.symm
    rw [e3]
    have T6 := T5.setBase (bs' := bs.set r (os.getD k 0))
    refine i_gIx (tx_others T6 (pu_var rfl)) (pu_var rfl) T6.others (ixN_nat (by rw [List.length_map, S.ol]; exact hk)) ?_
    have e4 : (iL os).set k (.d (.int (bs.getD r 0))) = iL (os.set k (bs.getD r 0)) := List.map_set.symm
    rw [e4]
    have T7 := T6.setOthers (os' := os.set k (bs.getD r 0))
    exact hZ _ ((fr5.set (T5.ge jb1 (by simp))).set (T5.ge jo1 (by simp))) ⟨_, _, _, _, T7⟩
  refine i_sif (put (pu_lt (pu_var rfl) pu_c)) (fun hp => ?_) (fun hp => ?_)
  · have hp' : en R r k < 0 := by simpa using hp
    refine i_sfldS (pu_neg (pu_var rfl)) (pu_var rfl) T3.obj (Nat.le_of_ble_eq_true rfl) ?_
    rw [putC_div]
    have T4 := T3.setDiv (D' := -(en R r k))
    have fr4 := fr3.set (o := .ins C (flds n jr1 jb1 jo1 (-(en R r k)))) (T3.ge j (by simp))
    generalize μ3.set j (.ins C (flds n jr1 jb1 jo1 (-(en R r k)))) = μ4 at T4 fr4 ⊢
    have lj1 : js1.length = m + 1 := by rw [LP.All2.len T4.at_, len1]
    have rl : ∀ x ∈ pivR1 R r k D, x.length = nn + 1 := by
      intro x hx
      unfold pivR1 at hx
      rcases List.mem_or_eq_of_mem_set hx with hx | hx
      · obtain ⟨y, hy, rfl⟩ := List.mem_map.mp hx
        rw [len_upd (by rw [S.row y hy, lr])]; exact S.row y hy
      · rw [hx, List.length_set]; exact lr
    refine i_fldO ?_
    refine i_seqI (tx_rows T4 (pu_var rfl)) (cells_m T4.rows) ?_
    refine neg_loop (by simp [wipeE]) js1 _ μ4 [] T4.at_ T4.rows (by simp; omega) (fun x hx => by rw [rl x hx]; omega) ?_
    rw [List.nil_append]
    have T5 : TabX C N (μ4 ++ ((((pivR1 R r k D).map fun r => r.map fun x => -x)).map fun r => MO.lst (iL r)) ++ [.lst ((List.range' μ4.length js1.length).map .m)]) j n (pivR1 R r k D) bs os (-(en R r k)) jr1 jb1 jo1 js1 := T4.map fun x _ o h => at_appL (at_appL h)
    have fr5 : Fr N μ (μ4 ++ ((((pivR1 R r k D).map fun r => r.map fun x => -x)).map fun r => MO.lst (iL r)) ++ [.lst ((List.range' μ4.length js1.length).map .m)]) := ⟨by have := fr4.l; simp; omega, fun i hi => by
      have := fr4.l
      rw [List.append_assoc, List.getElem?_append_left (by omega)]; exact fr4.at_ i hi⟩
    have rw5 := rows_new (μ := μ4) (M := [.lst ((List.range' μ4.length js1.length).map .m)]) ((pivR1 R r k D).map fun r => r.map fun x => -x) [] μ4.length (by simp)
    rw [List.nil_append, List.length_map, len1, ← lj1] at rw5
    have ll : (μ4 ++ ((((pivR1 R r k D).map fun r => r.map fun x => -x)).map fun r => MO.lst (iL r))).length = μ4.length + js1.length := by rw [List.length_append, List.length_map, List.length_map, len1, lj1]
    have nw : ∀ x, μ4.length ≤ x → x ∉ j :: jr1 :: jb1 :: jo1 :: js1 := fun x hx hm => by have := T4.lt hm; omega
    generalize hμ5 : μ4 ++ ((((pivR1 R r k D).map fun r => r.map fun x => -x)).map fun r => MO.lst (iL r)) = μ4b at T5 fr5 rw5 ll ⊢
    refine (pu_var (i := 0) rfl : Pu (aVar 0) [some (.m j), some (.d (.int (r : Nat))), some (.d (.int (k : Nat))), some (.m am), some (.d (.int (en R r k))), o5, o6, o7, none, none] _ (.m j)) _ _ ?_
    dsimp only
    rw [T5.obj]
    refine And.intro rfl (And.intro (Nat.le_of_ble_eq_true rfl) ?_)
    rw [putC_rows]
    have T6 := T5.newRows (jr' := μ4b.length) (js' := List.range' μ4.length js1.length) at_new rw5 (List.nodup_cons.mpr ⟨fun z => by have := List.mem_range'_1.mp z; omega, List.nodup_range'⟩)
      (fun x hx => by
        rcases List.mem_cons.mp hx with rfl | hx
        · exact nw _ (by omega)
        · exact nw _ (List.mem_range'_1.mp hx).1)
      (fun x hx => by
        have := fr4.l
        rcases List.mem_cons.mp hx with rfl | hx
        · omega
        · have := (List.mem_range'_1.mp hx).1; omega)
    refine swap _ _ _ _ _ _ (fr5.set (T5.ge j (by simp))) T6 fun μ' fr' T' => .inl (h μ' fr' ?_)
    rw [if_pos hp']
    have : pivR2 R r k D = (pivR1 R r k D).map fun r => r.map fun x => -x := by
      unfold pivR2
      have e : (fun x => sg (en R r k) x) = fun r => r.map fun x => -x := by
        funext x
        unfold LP.sg
        rw [if_pos hp']
      show (pivR1 R r k D).map (fun x => sg (en R r k) x) = _
      rw [e]
    rw [this]; exact T'
  · have hp' : ¬ en R r k < 0 := by simpa using hp
    refine swap μ3 jr1 js1 _ _ _ fr3 T3 fun μ' fr' T' => .inl (h μ' fr' ?_)
    rw [if_neg hp']
    have : pivR2 R r k D = pivR1 R r k D := by
      unfold pivR2
      have e : (fun x => sg (en R r k) x) = id := by
        funext x
        unfold LP.sg
        rw [if_neg hp']; rfl
      show (pivR1 R r k D).map (fun x => sg (en R r k) x) = _
      rw [e, List.map_id]
    rw [this]; exact T'
end Jh

set_option Elab.async false
set_option linter.all false
set_option maxRecDepth 100000
set_option maxHeartbeats 4000000
namespace Jh
open PySem PySem.Spec PyProof.Rows L2
open LP (gi gn All2 sg)
/-! ### solve -/
def rowsOf (t : LP.T) : List (List Int) := t.rows.map (·.2) ++ [t.bot]
abbrev iN (l : List Nat) : List Int := l.map fun v => ((v : Nat) : Int)
def TabT (C : Addr) (N : Nat) (μ : Sto) (j nn : Nat) (t : LP.T) : Prop := TabAt C N μ j (nn : Nat) (rowsOf t) (iN t.base) (iN t.others) t.D
theorem iN_get (l : List Nat) (k : Nat) : (iN l).getD k 0 = (gn l k : Nat) := by
  unfold LP.gn
  rw [List.getD_eq_getElem?_getD, List.getD_eq_getElem?_getD, List.getElem?_map]
  cases l[k]? <;> rfl
section
variable {nn : Nat} {t : LP.T}
theorem shp_of (w : LP.WF nn t) (hn : nn ≤ 100) (hm : t.base.length ≤ 100) : Shp nn t.base.length (rowsOf t) (iN t.base) (iN t.others) := by
  refine ⟨?_, fun r hr => ?_, by rw [List.length_map], by rw [List.length_map, w.ol], hm, hn⟩
  · unfold rowsOf; rw [List.length_append, List.length_map, w.rows]; rfl
  · unfold rowsOf at hr
    rcases List.mem_append.mp hr with hr | hr
    · obtain ⟨q, hq, rfl⟩ := List.mem_map.mp hr
      exact (w.row q hq).1
    · rw [List.mem_singleton.mp hr]; exact w.bot.1
theorem en_row {i k : Nat} {q : LP.Mask × LP.Row} (h : t.rows[i]? = some q) : en (rowsOf t) i k = gi q.2 k := by
  unfold en rowsOf
  have hi := (List.getElem?_eq_some_iff.mp h).1
  rw [List.getD_eq_getElem?_getD, List.getElem?_append_left (by rw [List.length_map]; exact hi), List.getElem?_map, h]; rfl
theorem en_bot {k : Nat} (w : LP.WF nn t) : en (rowsOf t) t.base.length k = gi t.bot k := by
  unfold en rowsOf
  rw [List.getD_eq_getElem?_getD, List.getElem?_append_right (by rw [List.length_map, w.rows]; exact Nat.le_refl _), List.length_map, w.rows, Nat.sub_self]; rfl
theorem row_ex (w : LP.WF nn t) {i : Nat} (h : i < t.base.length) : ∃ q, t.rows[i]? = some q := ⟨t.rows[i]'(by rw [w.rows]; exact h), List.getElem?_eq_getElem _⟩
theorem en_sm (w : LP.WF nn t) {i l : Nat} (hi : i < t.base.length + 1) (hl : l < nn + 1) : -1000 ≤ en (rowsOf t) i l ∧ en (rowsOf t) i l ≤ 1000 := by
  have key : ∀ r : List Int, (r.length = nn + 1 ∧ ∀ x ∈ r, LP.sm x) → -1000 ≤ gi r l ∧ gi r l ≤ 1000 := fun r h => by
    have := h.2 (gi r l) (List.mem_of_getElem? (gi_get (by omega)))
    exact this
  by_cases e : i = t.base.length
  · subst e; rw [en_bot w]; exact key _ w.bot
  · obtain ⟨q, hq⟩ := row_ex w (i := i) (by omega)
    rw [en_row hq]; exact key _ (w.row q (List.mem_of_getElem? hq))
theorem gn_get {l : List Nat} {k : Nat} (h : k < l.length) : l[k]? = some (gn l k) := by
  unfold LP.gn
  rw [List.getD_eq_getElem?_getD, List.getElem?_eq_getElem h]; rfl
theorem gn_inj_base (w : LP.WF nn t) {i j : Nat} (hi : i < t.base.length) (hj : j < t.base.length) (e : gn t.base i = gn t.base j) : i = j := by
  have nd := (List.nodup_append.mp w.nd).1
  have h1 := gn_get hi
  have h2 := gn_get hj
  rw [e, ← h2] at h1
  exact (List.getElem?_inj hi nd).mp h1
theorem gn_inj_others (w : LP.WF nn t) {i j : Nat} (hi : i < nn) (hj : j < nn) (e : gn t.others i = gn t.others j) : i = j := by
  have nd := (List.nodup_append.mp w.nd).2.1
  have h1 := gn_get (l := t.others) (k := i) (by rw [w.ol]; exact hi)
  have h2 := gn_get (l := t.others) (k := j) (by rw [w.ol]; exact hj)
  rw [e, ← h2] at h1
  exact (List.getElem?_inj (by rw [w.ol]; exact hi) nd).mp h1
theorem gn_disj (w : LP.WF nn t) {i j : Nat} (hi : i < t.base.length) (hj : j < nn) : gn t.base i ≠ gn t.others j := by
  have nd := (List.nodup_append.mp w.nd).2.2
  have h1 := List.mem_of_getElem? (gn_get hi)
  have h2 := List.mem_of_getElem? (gn_get (l := t.others) (k := j) (by rw [w.ol]; exact hj))
  exact nd _ h1 _ h2
theorem piv_link {r k : Nat} {mm : LP.Mask} {mid : LP.Row} (w : LP.WF nn t) (h : t.rows[r]? = some (mm, mid)) : pivR2 (rowsOf t) r k t.D = rowsOf (LP.pivR t r k mm mid) ∧ en (rowsOf t) r k = gi mid k := by
  have hr := (List.getElem?_eq_some_iff.mp h).1
  have e1 : ∀ k, en (rowsOf t) r k = gi mid k := fun k => en_row h
  have e2 : (rowsOf t).getD r [] = mid := by
    unfold rowsOf
    rw [List.getD_eq_getElem?_getD, List.getElem?_append_left (by rw [List.length_map]; exact hr), List.getElem?_map, h]; rfl
  refine ⟨?_, e1 k⟩
  unfold pivR2 pivR1
  rw [e2, e1]
  unfold rowsOf LP.pivR
  dsimp only
  rw [List.map_append, List.set_append_left _ _ (by rw [List.length_map, List.length_map]; exact hr), List.map_append, List.map_set, List.map_set, List.map_map, List.map_map]
  have e3 : (t.rows.map fun q => (q.1, sg (gi mid k) (LP.upd (gi mid k) t.D k mid q.2))).map (fun x => x.2) = t.rows.map fun q => sg (gi mid k) (LP.upd (gi mid k) t.D k mid q.2) := by rw [List.map_map]; rfl
  show _ = (((t.rows.map fun q => (q.1, sg (gi mid k) (LP.upd (gi mid k) t.D k mid q.2))).map (fun x => x.2)).set r (sg (gi mid k) (mid.set k t.D))) ++ _
  rw [e3]
  rfl
end
section
variable {a b : AX} {ρ : En} {μ : Sto} {c x y : Cl} {C : Addr} {D : AD} {s u : ASt} {t : AT} {g g1 g2 g3 : AG} {i f : Nat} {R : RS} {m : Str} {fs : List (Str × Cl)} {j : Nat}
theorem i_meth0 {er : Er} {Q : Cl → Sto → Prop} (ha : Pu a ρ μ (.m j)) (h : μ[j]? = some (.ins C fs)) (hm : getF m fs = none) (q : R [.m j] μ Q (fun _ _ => False)) : aMeth C m R a aNil er ρ μ Q := ha _ _ (by
  show match μ[j]? with | some (.ins C' fs) => C' = C ∧ getF m fs = none ∧ R [.m j] μ Q (fun _ _ => False) | _ => False
  rw [h]; exact ⟨rfl, hm, q⟩)
theorem i_meth2 {er : Er} {e1 e2 : AX} {c1 c2 : Cl} {Q : Cl → Sto → Prop} (ha : Pu a ρ μ (.m j)) (h : μ[j]? = some (.ins C fs)) (hm : getF m fs = none) (h1 : Pu e1 ρ μ c1) (h2 : Pu e2 ρ μ c2) (q : R [.m j, c1, c2] μ Q (fun _ _ => False)) : aMeth C m R a (aCons e1 (aCons e2 aNil)) er ρ μ Q := ha _ _ (by
  show match μ[j]? with | some (.ins C' fs) => C' = C ∧ getF m fs = none ∧ (aCons e1 (aCons e2 aNil)) er ρ μ (fun cs μ2 => R (.m j :: cs) μ2 Q (fun _ _ => False)) | _ => False
  rw [h]; exact ⟨rfl, hm, h1 _ _ (h2 _ _ q)⟩)
theorem i_minIx {L : List (List Int)} {cs : List Cl} (ha : Pu a ρ μ c) (hx : listOf c μ = some cs) (hc : cs = (L.map dL).map .d) (hne : L ≠ []) (hn : ∀ y ∈ L, y.length = 2) (h : ∀ r ∈ L, (∀ y ∈ L, r.headD 0 ≤ y.headD 0) → D.nx (ρ.set i (some (.d (.int (r.getD 1 0))))) μ) :
    sAsg (aIx (aCB fMinD (aCons a aNil)) (aC (.int 1))) (gN i) D ρ μ := by
  refine pu_min (L := L) D.er (fun x μ1 => fIx x (.d (.int 1)) μ1 fun c μ2 => gN i c ρ μ2 D.nx) ha hx hc hne (fun y hy e => by have := hn y hy; rw [e] at this; cases this) fun r hr hm => ?_
  have h2 := h r hr hm
  have l2 := hn r hr
  match r, l2 with
  | [p, q], _ => exact h2
theorem i_ssIf (ht : PuT t ρ μ true) (h : s { D with nx := fun ρ' μ' => u D ρ' μ' } ρ μ) {v : ASt} : sSeq (sIf t s v) u D ρ μ := ht D.er _ h
theorem i_ssIfN (ht : PuT t ρ μ false) {v : ASt} (h : v { D with nx := fun ρ' μ' => u D ρ' μ' } ρ μ) : sSeq (sIf t s v) u D ρ μ := ht D.er _ h
end
theorem i_sg3 {a : AX} {ρ : En} {μ : Sto} {D : AD} {u : ASt} {i1 i2 i3 : Nat} {d1 d2 d3 : PyData} (ha : Pu a ρ μ (.d (.tuple [d1, d2, d3]))) (h : u D (((ρ.set i1 (some (.d d1))).set i2 (some (.d d2))).set i3 (some (.d d3))) μ) : sSeq (sAsg a (gTu 3 (gsCons (gN i1) (gsCons (gN i2) (gsCons (gN i3) gsNil))))) u D ρ μ :=
  ha D.er _ (And.intro rfl h)
theorem i_sg2 {a : AX} {ρ : En} {μ : Sto} {D : AD} {u : ASt} {i1 i2 : Nat} {d1 d2 : PyData} (ha : Pu a ρ μ (.d (.tuple [d1, d2]))) (h : u D ((ρ.set i1 (some (.d d1))).set i2 (some (.d d2))) μ) : sSeq (sAsg a (gTu 2 (gsCons (gN i1) (gsCons (gN i2) gsNil)))) u D ρ μ :=
  ha D.er _ (And.intro rfl h)
theorem i_sexp {a : AX} {ρ : En} {μ : Sto} {D : AD} {u : ASt} (h : a D.er ρ μ fun _ μ1 => u D ρ μ1) : sSeq (sExp a) u D ρ μ := h
theorem i_asgN {a : AX} {ρ : En} {μ : Sto} {D : AD} {i : Nat} (h : a D.er ρ μ fun c μ1 => D.nx (ρ.set i (some c)) μ1) : sAsg a (gN i) D ρ μ := h
theorem i_sasgN {a : AX} {ρ : En} {μ : Sto} {D : AD} {u : ASt} {i : Nat} (h : a D.er ρ μ fun c μ1 => u D (ρ.set i (some c)) μ1) : sSeq (sAsg a (gN i)) u D ρ μ := h
theorem getF_wrong (n : Int) (jr jb jo : Nat) (D : Int) : getF "wrong" (flds n jr jb jo D) = none := rfl
theorem getF_pivot (n : Int) (jr jb jo : Nat) (D : Int) : getF "pivot" (flds n jr jb jo D) = none := rfl
def r_tab_solve (C : Addr) : RS := fun cs μ A _ => ∃ (N j nn : Nat) (t : LP.T), cs = [.m j] ∧ N ≤ μ.length ∧ TabT C N μ j nn t ∧ LP.Run nn t ∧ nn ≤ 100 ∧ t.base.length ≤ 100 ∧
  ∀ μ' t', Fr N μ μ' → TabT C N μ' j nn t' → LP.WF nn t' → LP.Opt nn t' → t'.base.length = t.base.length → t'.rows.map (·.1) = t.rows.map (·.1) → A (.d .none) μ'
abbrev solveT : AT := aTest (aOp fNotN (aVar 1) (aC .none))
abbrev solveB (C : Addr) : ASt := (sSeq (sAsg (aVar 1) (gTu 3 (gsCons (gN 2) (gsCons (gN 3) (gsCons (gN 4) gsNil)))))
    (sSeq (sIf (aTest (aOp (fI pGe) (aVar 3) (aC (.int 0)))) (sAsg (aIx (aCB fMinD (aCons (aFrz (aLc 5 [5] (aRg1 (aCons (aCB fLen (aCons (aFld C "others" (aVar 0)) aNil)) aNil)) (aTest (aOp fLt (aIx (aIx (aFld C "rows" (aVar 0)) (aVar 3)) (aVar 5)) (aC (.int 0)))) (aTup (aCons (aIx (aFld C "others" (aVar 0)) (aVar 5)) (aCons (aVar 5) aNil))))) aNil)) (aC (.int 1))) (gN 4)) (sAsg (aIx (aCB fMinD (aCons (aFrz (aLc 6 [6] (aRg1 (aCons (aCB fLen (aCons (aFld C "base" (aVar 0)) aNil)) aNil)) (aTest (aOp (fI pGt) (aIx (aIx (aFld C "rows" (aVar 0)) (aVar 6)) (aVar 4)) (aC (.int 0)))) (aTup (aCons (aIx (aFld C "base" (aVar 0)) (aVar 6)) (aCons (aVar 6) aNil))))) aNil)) (aC (.int 1))) (gN 3)))
    (sSeq (sExp (aMeth C "pivot" (r_tab_pivot C) (aVar 0) (aCons (aVar 3) (aCons (aVar 4) aNil))))
    (sAsg (aMeth C "wrong" (r_tab_wrong C) (aVar 0) aNil) (gN 1)))))
theorem map_fst_pivR (t : LP.T) (r k : Nat) (mm : LP.Mask) (mid : LP.Row) (h : t.rows[r]? = some (mm, mid)) : (LP.pivR t r k mm mid).rows.map (·.1) = t.rows.map (·.1) := by
  unfold LP.pivR
  dsimp only
  rw [List.map_set, List.map_map]
  have e : (t.rows.map (·.1))[r]? = some mm := by rw [List.getElem?_map, h]; rfl
  have e2 : ((Prod.fst : LP.Mask × LP.Row → LP.Mask) ∘ fun q => (q.1, sg (gi mid k) (LP.upd (gi mid k) t.D k mid q.2))) = Prod.fst := rfl
  rw [e2]
  apply List.ext_getElem?
  intro i
  by_cases hi : i = r
  · subst hi; rw [List.getElem?_set_self (List.getElem?_eq_some_iff.mp e).1, e]
  · rw [List.getElem?_set_ne (Ne.symm hi)]
theorem Run_wf {nn : Nat} {t : LP.T} (h : LP.Run nn t) : LP.WF nn t := by
  cases h <;> assumption
theorem solve_tail {C : Addr} {N j nn r k f : Nat} {Z Z' : AD} {t : LP.T} {mm : LP.Mask} {mid : LP.Row} {μ0 μ : Sto} {o1 o2 : Option Cl} (w : LP.WF nn t) (hn : nn ≤ 100) (hm : t.base.length ≤ 100) (hr : t.rows[r]? = some (mm, mid)) (hk : k < nn) (run : LP.Run nn (LP.pivR t r k mm mid))
    (ih : ∀ (μ : Sto) (d : PyData) (o2 o3 o4 : Option Cl), Fr N μ0 μ → TabT C N μ j nn (LP.pivR t r k mm mid) → WrRes nn (LP.pivR t r k mm mid).base.length (rowsOf (LP.pivR t r k mm mid)) (iN (LP.pivR t r k mm mid).base) (iN (LP.pivR t r k mm mid).others) d → whN solveT (solveB C) Z f [some (.m j), some (.d d), o2, o3, o4, none, none] μ)
    (hZ : Z'.nx = fun ρ μ => whN solveT (solveB C) Z f ρ μ) (fr : Fr N μ0 μ) (T : TabT C N μ j nn t) :
    sSeq (sExp (aMeth C "pivot" (r_tab_pivot C) (aVar 0) (aCons (aVar 3) (aCons (aVar 4) aNil)))) (sAsg (aMeth C "wrong" (r_tab_wrong C) (aVar 0) aNil) (gN 1)) Z' [some (.m j), o1, o2, some (.d (.int (r : Nat))), some (.d (.int (k : Nat))), none, none] μ := by
  have hrl : r < t.base.length := by rw [← w.rows]; exact (List.getElem?_eq_some_iff.mp hr).1
  have bl : (LP.pivR t r k mm mid).base.length = t.base.length := List.length_set ..
  have w' := Run_wf run
  have S := shp_of w hn hm
  have S' := shp_of w' hn (by rw [bl]; exact hm)
  have T0 := T
  obtain ⟨jr, jb, jo, js, T⟩ := T
  refine i_sexp (i_meth2 (pu_var rfl) T.obj (getF_pivot ..) (pu_var rfl) (pu_var rfl) ?_)
  refine ⟨N, j, _, _, _, _, _, nn, t.base.length, r, k, rfl, fr.l, T0, S, fun i l hi hl => en_sm w hi hl, w.D1, w.D2, hrl, hk, fun μ' fr' T' => ?_⟩
  obtain ⟨l1, l2⟩ := piv_link (k := k) w hr
  rw [l1, l2, iN_get, iN_get] at T'
  have T2 : TabT C N μ' j nn (LP.pivR t r k mm mid) := by
    have e1 : (iN t.base).set r ((gn t.others k : Nat) : Int) = iN (t.base.set r (gn t.others k)) := List.map_set.symm
    have e2 : (iN t.others).set k ((gn t.base r : Nat) : Int) = iN (t.others.set k (gn t.base r)) := List.map_set.symm
    rw [e1, e2] at T'
    exact T'
  have T3 := T2
  obtain ⟨jr', jb', jo', js', T3⟩ := T3
  refine i_asgN (i_meth0 (pu_var rfl) T3.obj (getF_wrong ..) ?_)
  refine ⟨N, j, _, _, _, _, _, nn, _, rfl, T2, S', fun d wr => ?_⟩
  rw [hZ]
  exact ih μ' d o2 _ _ (fr.trans fr') T2 wr
theorem solve_loop {C : Addr} {N j nn : Nat} {Z : AD} {t : LP.T} (run : LP.Run nn t) (hn : nn ≤ 100) : t.base.length ≤ 100 → ∀ μ0 : Sto, (∀ μ' t' o2 o3 o4 o1, Fr N μ0 μ' → TabT C N μ' j nn t' → LP.WF nn t' → LP.Opt nn t' → t'.base.length = t.base.length → t'.rows.map (·.1) = t.rows.map (·.1) → Z.nx [some (.m j), o1, o2, o3, o4, none, none] μ') →
    ∃ f, ∀ (μ : Sto) (d : PyData) (o2 o3 o4 : Option Cl), Fr N μ0 μ → TabT C N μ j nn t → WrRes nn t.base.length (rowsOf t) (iN t.base) (iN t.others) d → whN solveT (solveB C) Z f [some (.m j), some (.d d), o2, o3, o4, none, none] μ := by
  induction run with
  | stop t w h1 h2 opt =>
    intro hm μ0 hZ
    refine ⟨1, fun μ d o2 o3 o4 fr T wr => ?_⟩
    cases wr with
    | none _ _ => exact hZ μ t o2 o3 o4 _ fr T w opt rfl rfl
    | row r hr hx _ _ =>
      obtain ⟨q, hq⟩ := row_ex w hr
      rw [en_row hq] at hx
      have := h1 q (List.mem_of_getElem? hq)
      omega
    | col k hk hx _ _ =>
      rw [en_bot w] at hx
      have := h2 k hk
      omega
  | row t r k mm mid w hr hk hx1 hx2 hx3 hx4 hx5 run ih =>
    intro hm μ0 hZ
    have hrl : r < t.base.length := by rw [← w.rows]; exact (List.getElem?_eq_some_iff.mp hr).1
    have bl : (LP.pivR t r k mm mid).base.length = t.base.length := List.length_set ..
    obtain ⟨f, ih⟩ := ih (by rw [bl]; exact hm) μ0 (fun μ' t' o2 o3 o4 o1 fr T w' opt e1 e2 => hZ μ' t' o2 o3 o4 o1 fr T w' opt (e1.trans bl) (e2.trans (map_fst_pivR t r k mm mid hr)))
    refine ⟨f + 1, fun μ d o2 o3 o4 fr T wr => ?_⟩
    have S := shp_of w hn hm
    have e : d = dL [((gn t.base r : Nat) : Int), r, -1] := by
      cases wr with
      | none h1 _ =>
        have : 0 ≤ gi mid nn := by have := h1 r hrl; rwa [en_row hr] at this
        omega
      | row r' hr' hx' hm' _ =>
        obtain ⟨q, hq⟩ := row_ex w hr'
        have a1 := hm' r hrl (by rw [en_row hr]; exact hx1)
        rw [iN_get, iN_get] at a1
        have a2 := hx2 r' q hq (by rw [en_row hq] at hx'; exact hx')
        have := gn_inj_base w hr' hrl (by omega)
        subst this
        rw [iN_get]
      | col k' hk' hx' hm' _ =>
        have a1 := hm' r hrl (by rw [en_row hr]; exact hx1)
        rw [iN_get, iN_get] at a1
        have a2 := hx3 k' hk' (by rw [en_bot w] at hx'; exact hx')
        exact absurd (show gn t.base r = gn t.others k' by omega) (gn_disj w hrl hk')
    subst e
    show solveB C { Z with nx := fun ρ μ => whN solveT (solveB C) Z f ρ μ, ct := fun ρ μ => whN solveT (solveB C) Z f ρ μ, bk := Z.nx } [some (.m j), some (.d (dL [((gn t.base r : Nat) : Int), r, -1])), o2, o3, o4, none, none] μ
    obtain ⟨jr, jb, jo, js, T⟩ := T
    refine i_sg3 (pu_var rfl) ?_
    refine i_ssIf (put (k := true) ?_) ?_
    · have := pu_I (p := pGe) (i := (r : Nat)) (j := 0) (pu_var (ρ := [some (.m j), some (.d (dL [((gn t.base r : Nat) : Int), r, -1])), some (.d (.int (gn t.base r : Nat))), some (.d (.int (r : Nat))), some (.d (.int (-1))), none, none]) (i := 3) (μ := μ) rfl) (pu_c (d := .int 0))
      have e : pGe (r : Nat) 0 = true := by unfold pGe; simp
      rw [e] at this; exact this
    · refine i_minIx (c := .d (.list ((((List.range nn).filter fun i => decide (en (rowsOf t) r i < 0)).map fun i => [((gn t.others i : Nat) : Int), (i : Nat)]).map dL))) (L := ((List.range nn).filter fun i => decide (en (rowsOf t) r i < 0)).map fun i => [((gn t.others i : Nat) : Int), (i : Nat)]) ?_ rfl rfl ?_ ?_ ?_
      · refine pu_lc (cs := ((((List.range nn).filter fun i => decide (en (rowsOf t) r i < 0)).map fun i => [((gn t.others i : Nat) : Int), (i : Nat)]).map dL).map .d) (fun er Q q => i_rg1 (n := nn) (by have := pu_lenC (tx_others T (a := aVar 0) (ρ := [some (.m j), some (.d (dL [((gn t.base r : Nat) : Int), r, -1])), some (.d (.int (gn t.base r : Nat))), some (.d (.int (r : Nat))), some (.d (.int (-1))), none, none]) (pu_var rfl)) (cells_m T.others); rwa [List.length_map, S.ol] at this) (by omega) q) (fun Q q => ?_) rfl
        refine lcL_rg (fun i => decide (en (rowsOf t) r i < 0)) (fun i => .d (dL [((gn t.others i : Nat) : Int), (i : Nat)])) trivial (by omega) (fun i hi => ?_) (fun i hi _ => ?_) ?_
        · exact put (pu_lt (tx_ent T S (pu_var rfl) (pu_var rfl) (pu_var rfl) (by omega) (by omega)) pu_c)
        · refine pu_tup2 (tx_others_at T (pu_var rfl) (pu_var rfl) ?_) (pu_var rfl)
          rw [iat (l := iN t.others) (by rw [S.ol]; exact hi), iN_get]
        · rw [List.map_map, List.map_map] at q; exact q
      · intro z
        have : [((gn t.others k : Nat) : Int), (k : Nat)] ∈ ((List.range nn).filter fun i => decide (en (rowsOf t) r i < 0)).map fun i => [((gn t.others i : Nat) : Int), (i : Nat)] := List.mem_map.mpr ⟨k, List.mem_filter.mpr ⟨List.mem_range.mpr hk, by rw [en_row hr]; simpa using hx4⟩, rfl⟩
        rw [z] at this; cases this
      · intro y hy
        obtain ⟨i, _, rfl⟩ := List.mem_map.mp hy
        rfl
      · intro y hy hmin
        obtain ⟨k', hk', rfl⟩ := List.mem_map.mp hy
        obtain ⟨hk1, hk2⟩ := List.mem_filter.mp hk'
        have hk1 := List.mem_range.mp hk1
        have a1 := hmin [((gn t.others k : Nat) : Int), (k : Nat)] (List.mem_map.mpr ⟨k, List.mem_filter.mpr ⟨List.mem_range.mpr hk, by rw [en_row hr]; simpa using hx4⟩, rfl⟩)
        have a1' : ((gn t.others k' : Nat) : Int) ≤ (gn t.others k : Nat) := a1
        have a2 := hx5 k' hk1 (by rw [en_row hr] at hk2; simpa using hk2)
        have e : k' = k := gn_inj_others w hk1 hk (by omega)
        subst e
        exact solve_tail w hn hm hr hk run ih rfl fr ⟨_, _, _, _, T⟩
  | col t r k mm mid w hr hk hx1 hx2 hx3 hx4 hx5 run ih =>
    intro hm μ0 hZ
    have hrl : r < t.base.length := by rw [← w.rows]; exact (List.getElem?_eq_some_iff.mp hr).1
    have bl : (LP.pivR t r k mm mid).base.length = t.base.length := List.length_set ..
    obtain ⟨f, ih⟩ := ih (by rw [bl]; exact hm) μ0 (fun μ' t' o2 o3 o4 o1 fr T w' opt e1 e2 => hZ μ' t' o2 o3 o4 o1 fr T w' opt (e1.trans bl) (e2.trans (map_fst_pivR t r k mm mid hr)))
    refine ⟨f + 1, fun μ d o2 o3 o4 fr T wr => ?_⟩
    have S := shp_of w hn hm
    have e : d = dL [((gn t.others k : Nat) : Int), -1, k] := by
      cases wr with
      | none _ h2 =>
        have := h2 k hk
        rw [en_bot w] at this
        omega
      | row r' hr' hx' _ hm' =>
        obtain ⟨q, hq⟩ := row_ex w hr'
        have a1 := hm' k hk (by rw [en_bot w]; exact hx1)
        rw [iN_get, iN_get] at a1
        have a2 := hx2 r' q hq (by rw [en_row hq] at hx'; exact hx')
        exact absurd (show gn t.base r' = gn t.others k by omega) (gn_disj w hr' hk)
      | col k' hk' hx' _ hm' =>
        have a1 := hm' k hk (by rw [en_bot w]; exact hx1)
        rw [iN_get, iN_get] at a1
        have a2 := hx3 k' hk' (by rw [en_bot w] at hx'; exact hx')
        have := gn_inj_others w hk' hk (by omega)
        subst this
        rw [iN_get]
    subst e
    show solveB C { Z with nx := fun ρ μ => whN solveT (solveB C) Z f ρ μ, ct := fun ρ μ => whN solveT (solveB C) Z f ρ μ, bk := Z.nx } [some (.m j), some (.d (dL [((gn t.others k : Nat) : Int), -1, k])), o2, o3, o4, none, none] μ
    obtain ⟨jr, jb, jo, js, T⟩ := T
    refine i_sg3 (pu_var rfl) ?_
    refine i_ssIfN (put (k := false) ?_) ?_
    · have := pu_I (p := pGe) (i := -1) (j := 0) (pu_var (ρ := [some (.m j), some (.d (dL [((gn t.others k : Nat) : Int), -1, k])), some (.d (.int (gn t.others k : Nat))), some (.d (.int (-1))), some (.d (.int (k : Nat))), none, none]) (i := 3) (μ := μ) rfl) (pu_c (d := .int 0))
      exact this
    · have mem : [((gn t.base r : Nat) : Int), (r : Nat)] ∈ ((List.range t.base.length).filter fun i => pGt (en (rowsOf t) i k) 0).map fun i => [((gn t.base i : Nat) : Int), (i : Nat)] := List.mem_map.mpr ⟨r, List.mem_filter.mpr ⟨List.mem_range.mpr hrl, by rw [en_row hr]; unfold pGt; simpa using hx4⟩, rfl⟩
      refine i_minIx (c := .d (.list ((((List.range t.base.length).filter fun i => pGt (en (rowsOf t) i k) 0).map fun i => [((gn t.base i : Nat) : Int), (i : Nat)]).map dL))) (L := ((List.range t.base.length).filter fun i => pGt (en (rowsOf t) i k) 0).map fun i => [((gn t.base i : Nat) : Int), (i : Nat)]) ?_ rfl rfl ?_ ?_ ?_
      · refine pu_lc (cs := ((((List.range t.base.length).filter fun i => pGt (en (rowsOf t) i k) 0).map fun i => [((gn t.base i : Nat) : Int), (i : Nat)]).map dL).map .d) (fun er Q q => i_rg1 (n := t.base.length) (by have := pu_lenC (tx_base T (a := aVar 0) (ρ := [some (.m j), some (.d (dL [((gn t.others k : Nat) : Int), -1, k])), some (.d (.int (gn t.others k : Nat))), some (.d (.int (-1))), some (.d (.int (k : Nat))), none, none]) (pu_var rfl)) (cells_m T.base); rwa [List.length_map, S.bl] at this) (by omega) q) (fun Q q => ?_) rfl
        refine lcL_rg (fun i => pGt (en (rowsOf t) i k) 0) (fun i => .d (dL [((gn t.base i : Nat) : Int), (i : Nat)])) trivial (by omega) (fun i hi => ?_) (fun i hi _ => ?_) ?_
        · exact put (pu_I (tx_ent T S (pu_var rfl) (pu_var rfl) (pu_var rfl) (by omega) (by omega)) pu_c)
        · refine pu_tup2 (tx_base_at T (pu_var rfl) (pu_var rfl) ?_) (pu_var rfl)
          rw [iat (l := iN t.base) (by rw [S.bl]; exact hi), iN_get]
        · rw [List.map_map, List.map_map] at q; exact q
      · intro z
        rw [z] at mem; cases mem
      · intro y hy
        obtain ⟨i, _, rfl⟩ := List.mem_map.mp hy
        rfl
      · intro y hy hmin
        obtain ⟨r', hr', rfl⟩ := List.mem_map.mp hy
        obtain ⟨hr1, hr2⟩ := List.mem_filter.mp hr'
        have hr1 := List.mem_range.mp hr1
        have a1 := hmin _ mem
        have a1' : ((gn t.base r' : Nat) : Int) ≤ (gn t.base r : Nat) := a1
        obtain ⟨q, hq⟩ := row_ex w hr1
        have a2 := hx5 r' q hq (by rw [en_row hq] at hr2; unfold pGt at hr2; simpa using hr2)
        have e : r' = r := gn_inj_base w hr1 hrl (by omega)
        subst e
        exact solve_tail w hn hm hr hk run ih rfl fr ⟨_, _, _, _, T⟩
theorem h_tab_solve (C : Addr) (cs : List Cl) (μ : Sto) (A : Cl → Sto → Prop) (er : Er) (h : r_tab_solve C cs μ A er) : a_tab_solve C (r_tab_pivot C) (r_tab_wrong C) (bodyD μ A (fun _ _ => False)) (startE ns_tab_solve cs) μ := by
  obtain ⟨N, j, nn, t, rfl, hN, T, run, hn, hm, h⟩ := h
  show a_tab_solve C _ _ _ [some (.m j), none, none, none, none, none, none] μ
  have S := shp_of (Run_wf run) hn hm
  have T0 := T
  obtain ⟨jr, jb, jo, js, T⟩ := T
  refine i_sasgN (i_meth0 (pu_var rfl) T.obj (getF_wrong ..) ?_)
  refine ⟨N, j, _, _, _, _, _, nn, _, rfl, T0, S, fun d wr => ?_⟩
  obtain ⟨f, hf⟩ := solve_loop (Z := bodyD μ A (fun _ _ => False)) (C := C) (N := N) (j := j) run hn hm μ (fun μ' t' o2 o3 o4 o1 fr T w opt e1 e2 => .inl (h μ' t' fr T w opt e1 e2))
  exact ⟨f, hf μ d none none none (Fr.refl hN) T0 wr⟩
end Jh

set_option Elab.async false
set_option linter.all false
set_option maxRecDepth 100000
set_option maxHeartbeats 4000000
namespace Jh
open PySem PySem.Spec PyProof.Rows L2
open LP (gi gn All2 sg)
section
variable {a b : AX} {ρ : En} {μ : Sto} {c x y : Cl} {C : Addr} {D : AD} {s u : ASt} {t : AT} {i f : Nat} {fs : List (Str × Cl)} {j : Nat} {fn : Str}
theorem i_ownCat {cs es : List Cl} {er : Er} {Q : Cl → Sto → Prop} (ha : Pu a ρ μ x) (hb : Pu b ρ μ y) (hx : listOf x μ = some cs) (hy : listOf y μ = some es) (hl : cs.length + es.length ≤ 1000) (q : Q (.m μ.length) (μ ++ [.lst (cs ++ es)])) : aOwn (aCat a b) er ρ μ Q := ha _ _ (hb _ _ (by
  show match listOf x μ, listOf y μ with | some cs, some es => cs.length + es.length ≤ 1000 ∧ Q (.m μ.length) (μ ++ [.lst (cs ++ es)]) | _, _ => False
  rw [hx, hy]; exact ⟨hl, q⟩))
theorem rep_map {α β : Type} (f : α → β) (l : List α) (n : Nat) : (List.replicate n (l.map f)).flatten = (List.replicate n l).flatten.map f := by
  induction n with
  | zero => rfl
  | succ n ih => rw [List.replicate_succ, List.flatten_cons, ih, List.replicate_succ, List.flatten_cons, List.map_append]
theorem rep_one {α : Type} (x : α) (n : Nat) : (List.replicate n [x]).flatten = List.replicate n x := by
  induction n with
  | zero => rfl
  | succ n ih => rw [List.replicate_succ, List.flatten_cons, ih, List.replicate_succ]; rfl
theorem pu_rep1 {n : Nat} {d : PyData} (ha : Pu a ρ μ (.d (.list [d]))) (hb : Pu b ρ μ (.d (.int (n : Nat)))) (hn : n ≤ 1000) : Pu (aFrz (aRep a b)) ρ μ (.d (.list (List.replicate n d))) := fun er Q q => ha _ _ (hb _ _ (And.intro (by omega) (And.intro (by omega) (And.intro (Nat.le_of_ble_eq_true rfl) (by
  have e : (List.replicate ((n : Nat) : Int).toNat ([d].map Cl.d)).flatten = (List.replicate n d).map Cl.d := by
    rw [Int.toNat_natCast, rep_map, rep_one]
  rw [e]
  show match allD ((List.replicate n d).map Cl.d) with | some ds => Q (.d (.list ds)) μ | none => False
  rw [allD_map]; exact q)))))
theorem i_ownRep1 {n : Nat} {d : PyData} {er : Er} {Q : Cl → Sto → Prop} (ha : Pu a ρ μ (.d (.list [d]))) (hb : Pu b ρ μ (.d (.int (n : Nat)))) (hn : n ≤ 1000) (q : Q (.m μ.length) (μ ++ [.lst ((List.replicate n d).map Cl.d)])) : aOwn (aRep a b) er ρ μ Q := ha _ _ (hb _ _ (And.intro (by omega) (And.intro (by omega) (And.intro (Nat.le_of_ble_eq_true rfl) (by
  have e : (List.replicate ((n : Nat) : Int).toNat ([d].map Cl.d)).flatten = (List.replicate n d).map Cl.d := by
    rw [Int.toNat_natCast, rep_map, rep_one]
  rw [e]; exact q)))))
theorem i_app {cs : List Cl} (ha : Pu a ρ μ (.m f)) (hf : μ[f]? = some (.lst cs)) (h : b D.er ρ μ fun c μ2 => match μ2[f]? with
  | some (.lst cs) => cs.length < 1000 ∧ D.nx ρ (μ2.set f (.lst (cs ++ [c])))
  | _ => False) : sApp a b D ρ μ := ha _ _ (by
  show match μ[f]? with | some (.lst _) => _ | _ => False
  rw [hf]; exact h)
theorem i_sapp {cs : List Cl} (ha : Pu a ρ μ (.m f)) (hf : μ[f]? = some (.lst cs)) (h : b D.er ρ μ fun c μ2 => match μ2[f]? with
  | some (.lst cs) => cs.length < 1000 ∧ u D ρ (μ2.set f (.lst (cs ++ [c])))
  | _ => False) : sSeq (sApp a b) u D ρ μ := i_app ha hf h
/-- append of something pure -/
theorem i_sappP {cs : List Cl} (ha : Pu a ρ μ (.m f)) (hf : μ[f]? = some (.lst cs)) (hb : Pu b ρ μ c) (hl : cs.length < 1000) (h : u D ρ (μ.set f (.lst (cs ++ [c])))) : sSeq (sApp a b) u D ρ μ := i_sapp ha hf (hb _ _ (by rw [hf]; exact ⟨hl, h⟩))
theorem i_appP {cs : List Cl} (ha : Pu a ρ μ (.m f)) (hf : μ[f]? = some (.lst cs)) (hb : Pu b ρ μ c) (hl : cs.length < 1000) (h : D.nx ρ (μ.set f (.lst (cs ++ [c])))) : sApp a b D ρ μ := i_app ha hf (hb _ _ (by rw [hf]; exact ⟨hl, h⟩))
/-- o.f = a new list -/
theorem i_sfldW {R : AA} (hb : R D.er ρ μ fun cs μ2 => a D.er ρ (μ2 ++ [.lst cs]) fun x μ3 => match x with
  | .m jj => (match μ3[jj]? with
    | some (.ins C' fs) => C' = C ∧ fs.length < 1000 ∧ u D ρ (μ3.set jj (.ins C (putC fn (.m μ2.length) fs)))
    | _ => False)
  | _ => False) : sSeq (sFldS C fn a (aOwn R)) u D ρ μ := hb
theorem i_fldW_end {Q : Sto → Prop} (ha : Pu a ρ μ (.m j)) (h : μ[j]? = some (.ins C fs)) (hl : fs.length < 1000) {er : Er} {c : Cl} (q : Q (μ.set j (.ins C (putC fn c fs)))) : a er ρ μ fun x μ3 => match x with
  | .m jj => (match μ3[jj]? with
    | some (.ins C' fs) => C' = C ∧ fs.length < 1000 ∧ Q (μ3.set jj (.ins C (putC fn c fs)))
    | _ => False)
  | _ => False := ha _ _ (by
  show match μ[j]? with | some (.ins C' fs) => C' = C ∧ fs.length < 1000 ∧ Q (μ.set j (.ins C (putC fn c fs))) | _ => False
  rw [h]; exact ⟨rfl, hl, q⟩)
end
theorem lcL_mapF {α : Type} {j : Nat} {ρ : En} {a : AX} {st : Sto → Prop} {Q : List Cl → Sto → Prop} {μ : Sto} (g f : α → Cl) (hs : st μ) : ∀ (l : List α) (acc : List Cl), (∀ y ∈ l, Pu a (ρ.set j (some (g y))) μ (f y)) → acc.length + l.length ≤ 1000 →
    Q (acc ++ l.map f) μ → lcL j ρ aYes a st Q (l.map g) acc μ
  | [], acc, _, _, h => ⟨hs, by simpa using h⟩
  | y :: l, acc, ha, hl, h => by
    refine ⟨hs, by simp at hl; omega, ?_⟩
    refine ha y List.mem_cons_self _ _ (lcL_mapF g f hs l (acc ++ [f y]) (fun z hz => ha z (List.mem_cons_of_mem _ hz)) (by simp at hl ⊢; omega) ?_)
    simpa using h
theorem inD_int (k : Int) (l : List Int) : inD (.int k) (l.map .int) = decide (k ∈ l) := by
  unfold inD
  induction l with
  | nil => simp
  | cons x l ih =>
    rw [List.map_cons, List.any_cons, ih, eqv_int]
    by_cases h : x = k
    · simp [h]
    · have : ¬ k = x := fun e => h e.symm
      simp [h, this]
/-! ### the making of a tableau -/
abbrev dIL (l : List Int) : PyData := .list (l.map .int)
def maskOf (sets : List (List Int)) (k : Nat) : LP.Mask := sets.map fun s => decide (((k : Nat) : Int) ∈ s)
def masksOf (sets : List (List Int)) (m : Nat) : List LP.Mask := (List.range m).map (maskOf sets)
def r_tab_init (C : Addr) : RS := fun cs μ A _ => ∃ (N j jx m : Nat) (sets : List (List Int)), cs = [.m j, .m jx, .d (.int (m : Nat))] ∧ N ≤ j ∧ μ[j]? = some (.ins C []) ∧ μ[jx]? = some (.lst (sets.map fun s => .d (dIL s))) ∧ sets.length ≤ 100 ∧ m ≤ 100 ∧ 
  ∀ μ', Fr N μ μ' → TabT C N μ' j sets.length (LP.t0 sets.length (masksOf sets m)) → A (.d .none) μ'
theorem row_val (sets : List (List Int)) (k : Nat) : (sets.map fun s => if ((k : Nat) : Int) ∈ s then (-1 : Int) else 0) ++ [-1] = LP.row0 (maskOf sets k) := by
  unfold LP.row0 maskOf
  rw [List.map_map]
  congr 1
  apply List.map_congr_left
  intro s _
  by_cases h : ((k : Nat) : Int) ∈ s <;> simp [h]
abbrev initRow : AX := aOwn (aCat (aFrz (aLc 4 [4] (aSeqI (aVar 1)) aYes (aIf (aTest (aOp (fIn false) (aVar 3) (aVar 4))) (aNeg (aC (.int 1))) (aC (.int 0))))) (aFrz (aLst (aCons (aNeg (aC (.int 1))) aNil))))
theorem pu_lst1 {a : AX} {ρ : En} {μ : Sto} {d : PyData} (ha : Pu a ρ μ (.d d)) : Pu (aFrz (aLst (aCons a aNil))) ρ μ (.d (.list [d])) := fun er Q q => ha er _ (And.intro (Nat.le_of_ble_eq_true rfl) q)
theorem init_row {sets : List (List Int)} {j jx k : Nat} {o2 : Option Cl} {μ : Sto} {er : Er} {Q : Cl → Sto → Prop} (hx : μ[jx]? = some (.lst (sets.map fun s => .d (dIL s)))) (hl : sets.length ≤ 100) (q : Q (.m μ.length) (μ ++ [.lst (iL (LP.row0 (maskOf sets k)))])) :
    initRow er [some (.m j), some (.m jx), o2, some (.d (.int (k : Nat))), none] μ Q := by
  refine i_ownCat (x := .d (.list (sets.map fun s => PyData.int (if ((k : Nat) : Int) ∈ s then (-1 : Int) else 0)))) (y := .d (.list [.int (-1)])) ?_ (pu_lst1 (pu_neg pu_c)) rfl rfl (by simp; omega) ?_
  · refine pu_lc (cs := sets.map fun s => .d (.int (if ((k : Nat) : Int) ∈ s then (-1 : Int) else 0))) (fun er Q q => i_seqI (pu_var rfl) (cells_m hx) q) (fun Q q => ?_) (by rw [List.map_map]; rfl)
    refine lcL_mapF (fun s => .d (dIL s)) (fun s => .d (.int (if ((k : Nat) : Int) ∈ s then (-1 : Int) else 0))) (show μ[jx]? = _ from hx) sets [] (fun s hs => ?_) (by simp; omega) (by simpa using q)
    have e := pu_in (n := false) (d := .int (k : Nat)) (x := .d (dIL s)) (cs := (s.map PyData.int).map .d) (ds := s.map PyData.int) (pu_var (ρ := [some (.m j), some (.m jx), o2, some (.d (.int (k : Nat))), some (.d (dIL s))]) (i := 3) (μ := μ) rfl) (pu_var (i := 4) rfl) rfl (allD_map _) (Nat.le_of_ble_eq_true rfl)
    rw [inD_int] at e
    refine pu_if (put e) (fun h => ?_) (fun h => ?_)
    · have h' : ((k : Nat) : Int) ∈ s := by simpa using h
      rw [if_pos h']; exact pu_neg pu_c
    · have h' : ¬ ((k : Nat) : Int) ∈ s := by simpa using h
      rw [if_neg h']; exact pu_c
  · have e : ((sets.map fun s => PyData.int (if ((k : Nat) : Int) ∈ s then (-1 : Int) else 0)).map Cl.d ++ [PyData.int (-1)].map Cl.d) = iL (LP.row0 (maskOf sets k)) := by
      rw [← row_val, iL, List.map_append, List.map_map, List.map_map]; rfl
    rw [e]; exact q
/-- the state while the rows are made -/
structure InitAt (C : Addr) (N : Nat) (μ0 : Sto) (sets : List (List Int)) (j jx jr : Nat) (n : Int) (i : Nat) (R : List (List Int)) (μ : Sto) : Prop where
  len : μ.length = jr + 1 + i
  obj : μ[j]? = some (.ins C [("many", .d (.int n)), ("rows", .m jr)])
  rows : μ[jr]? = some (.lst ((List.range' (jr + 1) i).map .m))
  at_ : RowsAt μ (List.range' (jr + 1) i) R
  sets : μ[jx]? = some (.lst (sets.map fun s => .d (dIL s)))
  fr : Fr N μ0 μ
theorem All2.snoc {α β : Type} {R : α → β → Prop} {a : α} {b : β} (r : R a b) : ∀ {l : List α} {m : List β}, All2 R l m → All2 R (l ++ [a]) (m ++ [b])
  | _, _, .nil => .cons r .nil
  | _, _, .cons q t => .cons q (All2.snoc r t)
theorem InitAt.step {C : Addr} {N : Nat} {μ0 : Sto} {sets : List (List Int)} {j jx jr : Nat} {n : Int} {i : Nat} {R : List (List Int)} {μ : Sto} (h : InitAt C N μ0 sets j jx jr n i R μ) (hj : j < jr) (hx : jx < jr) (hN : N ≤ jr) (row : List Int) :
    InitAt C N μ0 sets j jx jr n (i + 1) (R ++ [row]) ((μ ++ [MO.lst (iL row)]).set jr (MO.lst ((List.range' (jr + 1) i).map Cl.m ++ [Cl.m μ.length]))) := by
  have e : (List.range' (jr + 1) i).map Cl.m ++ [.m μ.length] = (List.range' (jr + 1) (i + 1)).map .m := by
    rw [List.range'_concat, List.map_append, h.len]
    simp
  refine ⟨by simp [h.len]; omega, ?_, ?_, ?_, ?_, (h.fr.app).set hN⟩
  · rw [at_ne (by omega)]; exact at_app h.obj
  · rw [e]; exact at_same (at_app h.rows)
  · rw [List.range'_concat]
    refine All2.snoc ?_ (All2.imp h.at_ fun a b ha hb => ?_)
    · rw [Nat.one_mul, ← h.len, at_ne (by rw [h.len]; omega)]; exact at_new
    · have := (List.mem_range'_1.mp ha).1
      rw [at_ne (by omega)]; exact at_app hb
  · rw [at_ne (by omega)]; exact at_app h.sets
theorem init_loop {C : Addr} {N : Nat} {μ0 : Sto} {sets : List (List Int)} {j jx jr : Nat} {n : Int} {o2 : Option Cl} {st : Sto → Prop} {Z : AD} (hj : j < jr) (hx : jx < jr) (hN : N ≤ jr) (hl : sets.length ≤ 100) (hs : ∀ μ, st μ) {m : Nat} (hm : m ≤ 100)
    (hZ : ∀ μ' o3, InitAt C N μ0 sets j jx jr n m ((masksOf sets m).map LP.row0) μ' → Z.nx [some (.m j), some (.m jx), o2, o3, none] μ') : ∀ (q i : Nat) (μ : Sto) (o3 : Option Cl), i + q = m → InitAt C N μ0 sets j jx jr n i ((masksOf sets i).map LP.row0) μ →
    forL (gN 3) (sApp (aFld C "rows" (aVar 0)) initRow) st Z ((List.range' i q).map fun i => Cl.d (.int (i : Nat))) [some (.m j), some (.m jx), o2, o3, none] μ
  | 0, i, μ, o3, e, h => by
    have e' : i = m := by omega
    subst e'
    exact ⟨hs μ, hZ μ o3 h⟩
  | q + 1, i, μ, o3, e, h => by
    rw [List.range'_succ]
    refine ⟨hs μ, ?_⟩
    have a0 : Pu (aFld C "rows" (aVar 0)) [some (.m j), some (.m jx), o2, some (.d (.int (i : Nat))), none] μ (.m jr) := pu_fld (pu_var rfl) h.obj rfl
    refine i_app a0 h.rows (init_row h.sets hl ?_)
    rw [at_app h.rows]
    refine And.intro (by simp; omega) ?_
    have st := h.step hj hx hN (LP.row0 (maskOf sets i))
    refine init_loop hj hx hN hl hs hm hZ q (i + 1) _ _ (by omega) ?_
    have e2 : (masksOf sets (i + 1)).map LP.row0 = (masksOf sets i).map LP.row0 ++ [LP.row0 (maskOf sets i)] := by
      unfold masksOf
      rw [List.range_succ, List.map_append, List.map_append]; rfl
    rw [e2]; exact st
theorem range_nodup_ne {a n x : Nat} (h : x ∈ List.range' a n) : a ≤ x ∧ x < a + n := List.mem_range'_1.mp h
theorem rowsOf_t0 (n : Nat) (mks : List LP.Mask) : rowsOf (LP.t0 n mks) = mks.map LP.row0 ++ [List.replicate n 1 ++ [0]] := by
  unfold rowsOf LP.t0
  rw [List.map_map]; rfl
theorem h_tab_init (C : Addr) (cs : List Cl) (μ : Sto) (A : Cl → Sto → Prop) (er : Er) (h : r_tab_init C cs μ A er) : a_tab_init C (bodyD μ A (fun _ _ => False)) (startE ns_tab_init cs) μ := by
  obtain ⟨N, j, jx, m, sets, rfl, hN, hj, hx, hl, hm, h⟩ := h
  show a_tab_init C _ [some (.m j), some (.m jx), some (.d (.int (m : Nat))), none, none] μ
  have lj := at_lt hj
  have lx := at_lt hx
  have hjx : jx ≠ j := fun e => by rw [e, hj] at hx; cases hx
  have p1 : Pu (aCB fLen (aCons (aVar 1) aNil)) [some (.m j), some (.m jx), some (.d (.int (m : Nat))), none, none] μ (.d (.int (sets.length : Nat))) := by
    have := pu_lenC (pu_var (i := 1) (ρ := [some (.m j), some (.m jx), some (.d (.int (m : Nat))), none, none]) rfl) (cells_m hx); rwa [List.length_map] at this
  refine i_sfldS p1 (pu_var rfl) hj (Nat.le_of_ble_eq_true rfl) ?_
  have k1 : putC "many" (.d (.int (sets.length : Nat))) ([] : List (Str × Cl)) = ([("many", .d (.int (sets.length : Nat)))] : List (Str × Cl)) := rfl
  rw [k1]
  have fr1 : Fr N μ (μ.set j (MO.ins C [("many", .d (.int (sets.length : Nat)))])) := (Fr.refl (by omega)).set hN
  have hj1 := at_same (o' := MO.ins C [("many", .d (.int (sets.length : Nat)))]) hj
  have hx1 : (μ.set j (MO.ins C [("many", .d (.int (sets.length : Nat)))]))[jx]? = some (MO.lst (sets.map fun s => .d (dIL s))) := by rw [at_ne hjx]; exact hx
  have ln1 : (μ.set j (MO.ins C [("many", .d (.int (sets.length : Nat)))])).length = μ.length := List.length_set ..
  generalize μ.set j (MO.ins C [("many", .d (.int (sets.length : Nat)))]) = μ1 at fr1 hj1 hx1 ln1 ⊢
  -- rows
  refine i_sfldW (R := aLst aNil) (And.intro (Nat.le_of_ble_eq_true rfl) (i_fldW_end (pu_var rfl) (at_app hj1) (Nat.le_of_ble_eq_true rfl) ?_))
  have k2 : putC "rows" (.m μ1.length) ([("many", .d (.int (sets.length : Nat)))] : List (Str × Cl)) = ([("many", .d (.int (sets.length : Nat))), ("rows", .m μ1.length)] : List (Str × Cl)) := by
    have h1 : ¬ (("many" : Str) = "rows") := by decide +kernel
    simp only [putC, if_neg h1]
  rw [k2]
  have hj' : j < μ1.length := by omega
  have hx' : jx < μ1.length := by omega
  have ia : InitAt C N μ sets j jx μ1.length (sets.length : Nat) 0 [] ((μ1 ++ [MO.lst []]).set j (MO.ins C [("many", .d (.int (sets.length : Nat))), ("rows", .m μ1.length)])) := by
    refine ⟨by simp, at_same (at_app hj1), ?_, .nil, ?_, (fr1.app).set hN⟩
    · rw [at_ne (by omega)]; exact at_new
    · rw [at_ne hjx]; exact at_app hx1
  generalize (μ1 ++ [MO.lst []]).set j (MO.ins C [("many", .d (.int (sets.length : Nat))), ("rows", .m μ1.length)]) = μ2 at ia ⊢
  generalize μ1.length = jr at *
  refine i_sfor (i_rg1 (n := m) (pu_var rfl) (by omega) ?_)
  rw [rgC0, List.range_eq_range']
  refine init_loop (N := N) (n := (sets.length : Nat)) (m := m) hj' hx' (by omega) hl (fun _ => trivial) hm (fun μ3 o3 ia3 => ?_) m 0 μ2 none (by omega) (by simpa [masksOf] using ia)
  clear ia
  -- the bottom row
  have q1 : Pu (aCB fLen (aCons (aVar 1) aNil)) [some (.m j), some (.m jx), some (.d (.int (m : Nat))), o3, none] μ3 (.d (.int (sets.length : Nat))) := by
    have := pu_lenC (pu_var (i := 1) (ρ := [some (.m j), some (.m jx), some (.d (.int (m : Nat))), o3, none]) rfl) (cells_m ia3.sets); rwa [List.length_map] at this
  have q2 : Pu (aFrz (aRep (aFrz (aLst (aCons (aC (.int 1)) aNil))) (aCB fLen (aCons (aVar 1) aNil)))) [some (.m j), some (.m jx), some (.d (.int (m : Nat))), o3, none] μ3 (.d (.list (List.replicate sets.length (.int 1)))) := pu_rep1 (pu_lst1 pu_c) q1 (by omega)
  have a4 : Pu (aFld C "rows" (aVar 0)) [some (.m j), some (.m jx), some (.d (.int (m : Nat))), o3, none] μ3 (.m jr) := pu_fld (pu_var rfl) ia3.obj rfl
  refine i_sapp a4 ia3.rows (i_ownCat (x := .d (.list (List.replicate sets.length (.int 1)))) (y := .d (.list [.int 0])) q2 (pu_lst1 pu_c) rfl rfl (by simp; omega) ?_)
  have e3 : ((List.replicate sets.length (PyData.int 1)).map Cl.d ++ [PyData.int 0].map Cl.d) = iL (List.replicate sets.length 1 ++ [0]) := by
    simp [iL]
  rw [e3, at_app ia3.rows]
  refine And.intro (by simp; omega) ?_
  have ia4 := ia3.step hj' hx' (by omega) (List.replicate sets.length 1 ++ [0])
  generalize (μ3 ++ [MO.lst (iL (List.replicate sets.length 1 ++ [0]))]).set jr (MO.lst ((List.range' (jr + 1) m).map Cl.m ++ [Cl.m μ3.length])) = μ4 at ia4 ⊢
  -- base
  refine i_sfldW (R := aLc 3 [3] (aRg1 (aCons (aVar 2) aNil)) aYes (aOp fAdd (aCB fLen (aCons (aVar 1) aNil)) (aVar 3))) (i_rg1 (n := m) (pu_var rfl) (by omega) ?_)
  refine lcL_rg (fun _ => true) (fun i => .d (.int (((sets.length + i : Nat)) : Int))) trivial (by omega) (fun i hi => put_yes) (fun i hi _ => ?_) ?_
  · have r1 : Pu (aCB fLen (aCons (aVar 1) aNil)) [some (.m j), some (.m jx), some (.d (.int (m : Nat))), some (.d (.int (i : Nat))), none] μ4 (.d (.int (sets.length : Nat))) := by
      have := pu_lenC (pu_var (i := 1) (ρ := [some (.m j), some (.m jx), some (.d (.int (m : Nat))), some (.d (.int (i : Nat))), none]) rfl) (cells_m ia4.sets); rwa [List.length_map] at this
    rw [Int.natCast_add]
    exact pu_add r1 (pu_var rfl)
  have efil : (List.range m).filter (fun _ => true) = List.range m := List.filter_eq_self.mpr fun _ _ => rfl
  rw [efil]
  have e5 : ((List.range m).map fun i => Cl.d (.int (((sets.length + i : Nat)) : Int))) = iL (iN ((List.range m).map fun i => sets.length + i)) := by
    simp [iL, iN]
  rw [e5]
  refine i_fldW_end (pu_var rfl) (at_app ia4.obj) (Nat.le_of_ble_eq_true rfl) ?_
  have h1 : ¬ (("many" : Str) = "base") := by decide +kernel
  have h2 : ¬ (("rows" : Str) = "base") := by decide +kernel
  have k3 : putC "base" (.m μ4.length) ([("many", .d (.int (sets.length : Nat))), ("rows", .m jr)] : List (Str × Cl)) = ([("many", .d (.int (sets.length : Nat))), ("rows", .m jr), ("base", .m μ4.length)] : List (Str × Cl)) := by
    simp only [putC, if_neg h1, if_neg h2]
  rw [k3]
  have l4 := ia4.len
  -- others
  have hx5 : ((μ4 ++ [MO.lst (iL (iN ((List.range m).map fun i => sets.length + i)))]).set j (MO.ins C [("many", .d (.int (sets.length : Nat))), ("rows", .m jr), ("base", .m μ4.length)]))[jx]? = some (MO.lst (sets.map fun s => .d (dIL s))) := by rw [at_ne hjx]; exact at_app ia4.sets
  have hj5 := at_same (o' := MO.ins C [("many", .d (.int (sets.length : Nat))), ("rows", .m jr), ("base", .m μ4.length)]) (at_app (o' := MO.lst (iL (iN ((List.range m).map fun i => sets.length + i)))) ia4.obj)
  have hr5 : ((μ4 ++ [MO.lst (iL (iN ((List.range m).map fun i => sets.length + i)))]).set j (MO.ins C [("many", .d (.int (sets.length : Nat))), ("rows", .m jr), ("base", .m μ4.length)]))[jr]? = some (MO.lst ((List.range' (jr + 1) (m + 1)).map .m)) := by rw [at_ne (by omega)]; exact at_app ia4.rows
  have hR5 : RowsAt ((μ4 ++ [MO.lst (iL (iN ((List.range m).map fun i => sets.length + i)))]).set j (MO.ins C [("many", .d (.int (sets.length : Nat))), ("rows", .m jr), ("base", .m μ4.length)])) (List.range' (jr + 1) (m + 1)) ((masksOf sets m).map LP.row0 ++ [List.replicate sets.length 1 ++ [0]]) :=
    All2.imp ia4.at_ fun a b ha hb => by
      have := (range_nodup_ne ha).1
      rw [at_ne (by omega)]; exact at_app hb
  have hb5 : ((μ4 ++ [MO.lst (iL (iN ((List.range m).map fun i => sets.length + i)))]).set j (MO.ins C [("many", .d (.int (sets.length : Nat))), ("rows", .m jr), ("base", .m μ4.length)]))[μ4.length]? = some (MO.lst (iL (iN ((List.range m).map fun i => sets.length + i)))) := by rw [at_ne (by omega)]; exact at_new
  have fr5 : Fr N μ ((μ4 ++ [MO.lst (iL (iN ((List.range m).map fun i => sets.length + i)))]).set j (MO.ins C [("many", .d (.int (sets.length : Nat))), ("rows", .m jr), ("base", .m μ4.length)])) := (ia4.fr.app).set hN
  have l5 : ((μ4 ++ [MO.lst (iL (iN ((List.range m).map fun i => sets.length + i)))]).set j (MO.ins C [("many", .d (.int (sets.length : Nat))), ("rows", .m jr), ("base", .m μ4.length)])).length = μ4.length + 1 := by simp
  generalize (μ4 ++ [MO.lst (iL (iN ((List.range m).map fun i => sets.length + i)))]).set j (MO.ins C [("many", .d (.int (sets.length : Nat))), ("rows", .m jr), ("base", .m μ4.length)]) = μ5 at hx5 hj5 hr5 hR5 hb5 fr5 l5 ⊢
  refine i_sfldW (R := aLRg (aCB fLen (aCons (aVar 1) aNil))) ?_
  have r1 : Pu (aCB fLen (aCons (aVar 1) aNil)) [some (.m j), some (.m jx), some (.d (.int (m : Nat))), o3, none] μ5 (.d (.int (sets.length : Nat))) := by
    have := pu_lenC (pu_var (i := 1) (ρ := [some (.m j), some (.m jx), some (.d (.int (m : Nat))), o3, none]) rfl) (cells_m hx5); rwa [List.length_map] at this
  refine r1 _ _ (And.intro (by omega) (And.intro (by omega) ?_))
  have e6 : ((List.range ((sets.length : Nat) : Int).toNat).map fun i => Cl.d (.int (i : Nat))) = iL (iN (List.range sets.length)) := by
    rw [Int.toNat_natCast]; simp [iL, iN]
  rw [e6]
  refine i_fldW_end (pu_var rfl) (at_app hj5) (Nat.le_of_ble_eq_true rfl) ?_
  have h3 : ¬ (("many" : Str) = "others") := by decide +kernel
  have h4 : ¬ (("rows" : Str) = "others") := by decide +kernel
  have h5 : ¬ (("base" : Str) = "others") := by decide +kernel
  have k4 : putC "others" (.m μ5.length) ([("many", .d (.int (sets.length : Nat))), ("rows", .m jr), ("base", .m μ4.length)] : List (Str × Cl)) = ([("many", .d (.int (sets.length : Nat))), ("rows", .m jr), ("base", .m μ4.length), ("others", .m μ5.length)] : List (Str × Cl)) := by
    simp only [putC, if_neg h3, if_neg h4, if_neg h5]
  rw [k4]
  -- divisor
  have hj6 := at_same (o' := MO.ins C [("many", .d (.int (sets.length : Nat))), ("rows", .m jr), ("base", .m μ4.length), ("others", .m μ5.length)]) (at_app (o' := MO.lst (iL (iN (List.range sets.length)))) hj5)
  refine i_fldS pu_c (pu_var rfl) hj6 (Nat.le_of_ble_eq_true rfl) ?_
  have h6 : ¬ (("many" : Str) = "divisor") := by decide +kernel
  have h7 : ¬ (("rows" : Str) = "divisor") := by decide +kernel
  have h8 : ¬ (("base" : Str) = "divisor") := by decide +kernel
  have h9 : ¬ (("others" : Str) = "divisor") := by decide +kernel
  have k5 : putC "divisor" (.d (.int 1)) ([("many", .d (.int (sets.length : Nat))), ("rows", .m jr), ("base", .m μ4.length), ("others", .m μ5.length)] : List (Str × Cl)) = flds (sets.length : Nat) jr μ4.length μ5.length 1 := by
    simp only [flds, putC, if_neg h6, if_neg h7, if_neg h8, if_neg h9]
  rw [k5, List.set_set]
  refine .inl (h _ ((fr5.app).set hN) ⟨jr, μ4.length, μ5.length, List.range' (jr + 1) (m + 1), ?_⟩)
  rw [rowsOf_t0]
  refine ⟨at_same (at_app hj5), ?_, ?_, ?_, All2.imp hR5 fun a b ha hb => ?_, ?_, fun x hx => ?_⟩
  · rw [at_ne (by omega)]; exact at_app hr5
  · rw [at_ne (by omega)]
    have := at_app (o' := MO.lst (iL (iN (List.range sets.length)))) hb5
    have e7 : (masksOf sets m).length = m := by simp [masksOf]
    show _ = some (MO.lst (iL (iN ((List.range (masksOf sets m).length).map fun i => sets.length + i))))
    rw [e7]; exact this
  · rw [at_ne (by omega)]; exact at_new
  · have := (range_nodup_ne ha).1
    rw [at_ne (by omega)]; exact at_app hb
  · have m1 : ∀ x, x ∈ List.range' (jr + 1) (m + 1) → jr + 1 ≤ x ∧ x < jr + 1 + (m + 1) := fun x => range_nodup_ne
    simp only [List.nodup_cons, List.mem_cons, not_or]
    refine ⟨⟨by omega, by omega, by omega, fun z => ?_⟩, ⟨by omega, by omega, fun z => ?_⟩, ⟨by omega, fun z => ?_⟩, fun z => ?_, List.nodup_range'⟩
    all_goals (have := m1 _ z; omega)
  · rcases List.mem_cons.mp hx with rfl | hx
    · exact hN
    rcases List.mem_cons.mp hx with rfl | hx
    · omega
    rcases List.mem_cons.mp hx with rfl | hx
    · omega
    rcases List.mem_cons.mp hx with rfl | hx
    · omega
    · have := (range_nodup_ne hx).1; omega
end Jh

set_option Elab.async false
set_option linter.all false
set_option maxRecDepth 100000
set_option maxHeartbeats 4000000
namespace Jh
open PySem PySem.Spec PyProof.Rows L2
open LP (gi gn All2 sg)
section
variable {a b : AX} {ρ : En} {μ : Sto} {c x y c1 c2 c3 : Cl} {C : Addr} {D : AD} {s u : ASt} {t : AT} {i f j : Nat} {e1 e2 e3 : AX} {R : RS} {m : Str} {fs : List (Str × Cl)}
theorem i_call1 {er : Er} {Q : Cl → Sto → Prop} (h1 : Pu e1 ρ μ c1) (q : R [c1] μ Q er) : aCall R (aCons e1 aNil) er ρ μ Q := h1 _ _ q
theorem i_call2 {er : Er} {Q : Cl → Sto → Prop} (h1 : Pu e1 ρ μ c1) (h2 : Pu e2 ρ μ c2) (q : R [c1, c2] μ Q er) : aCall R (aCons e1 (aCons e2 aNil)) er ρ μ Q := h1 _ _ (h2 _ _ q)
theorem i_call3 {er : Er} {Q : Cl → Sto → Prop} (h1 : Pu e1 ρ μ c1) (h2 : Pu e2 ρ μ c2) (h3 : Pu e3 ρ μ c3) (q : R [c1, c2, c3] μ Q er) : aCall R (aCons e1 (aCons e2 (aCons e3 aNil))) er ρ μ Q := h1 _ _ (h2 _ _ (h3 _ _ q))
theorem pu_call1 (h1 : Pu e1 ρ μ c1) (h : ∀ er Q, Q c μ → R [c1] μ Q er) : Pu (aCall R (aCons e1 aNil)) ρ μ c := fun er Q q => h1 _ _ (h er Q q)
theorem pu_call2 (h1 : Pu e1 ρ μ c1) (h2 : Pu e2 ρ μ c2) (h : ∀ er Q, Q c μ → R [c1, c2] μ Q er) : Pu (aCall R (aCons e1 (aCons e2 aNil))) ρ μ c := fun er Q q => h1 _ _ (h2 _ _ (h er Q q))
theorem pu_call3 (h1 : Pu e1 ρ μ c1) (h2 : Pu e2 ρ μ c2) (h3 : Pu e3 ρ μ c3) (h : ∀ er Q, Q c μ → R [c1, c2, c3] μ Q er) : Pu (aCall R (aCons e1 (aCons e2 (aCons e3 aNil)))) ρ μ c := fun er Q q => h1 _ _ (h2 _ _ (h3 _ _ (h er Q q)))
theorem pu_meth0 (ha : Pu a ρ μ (.m j)) (h : μ[j]? = some (.ins C fs)) (hm : getF m fs = none) (q : ∀ Q, Q c μ → R [.m j] μ Q (fun _ _ => False)) : Pu (aMeth C m R a aNil) ρ μ c := fun er Q z => i_meth0 ha h hm (q Q z)
theorem pu_tupC {cs : List Cl} {ds : List PyData} (ha : Pu a ρ μ x) (hx : cellsOf x μ = some cs) (hd : cs = ds.map .d) : Pu (aCB fTup (aCons a aNil)) ρ μ (.d (.tuple ds)) := fun er Q q => ha _ _ (by
  show match cellsOf x μ with | some xs => (match allD xs with | some ds => Q (.d (.tuple ds)) μ | none => False) | none => False
  rw [hx, hd]
  show match allD (ds.map .d) with | some ds => Q (.d (.tuple ds)) μ | none => False
  rw [allD_map]; exact q)
theorem pu_leI {n : Int} {k : Int} (ha : Pu a ρ μ (.d (.int n))) (hb : Pu b ρ μ (.d (.int k))) : Pu (aOp (fI pGe) a b) ρ μ (.d (.bool (decide (k ≤ n)))) := pu_I ha hb
end
abbrev dFs (D : Int) (l : List Int) : List PyData := l.map fun c => dF (fr c D)
abbrev cFs (D : Int) (l : List Int) : List Cl := l.map fun c => .d (dF (fr c D))
theorem dFs_cFs (D : Int) (l : List Int) : cFs D l = (dFs D l).map .d := by rw [List.map_map]; rfl
def r_tab_fractions (C : Addr) : RS := fun cs μ A _ => ∃ (N j nn : Nat) (t : LP.T), cs = [.m j] ∧ TabT C N μ j nn t ∧ LP.WF nn t ∧ nn ≤ 100 ∧ t.base.length ≤ 100 ∧ A (.d (.tuple (dFs t.D (LP.cov nn t)))) μ
def r_tab_weights (C : Addr) : RS := fun cs μ A _ => ∃ (N j nn : Nat) (t : LP.T), cs = [.m j] ∧ TabT C N μ j nn t ∧ LP.WF nn t ∧ nn ≤ 100 ∧ t.base.length ≤ 100 ∧ A (.d (.tuple (dFs t.D (LP.pak nn t.others t.base.length t.bot)))) μ
theorem drop_get {α : Type} {l : List α} {i : Nat} {x : α} (h : l[i]? = some x) : l.drop i = x :: l.drop (i + 1) := by
  have hi := (List.getElem?_eq_some_iff.mp h)
  rw [← hi.2]
  exact List.drop_eq_getElem_cons hi.1
theorem frac_loop {C : Addr} {N j jr jb jo nn f : Nat} {js : List Nat} {t : LP.T} {μ0 : Sto} {st : Sto → Prop} {Z : AD} (w : LP.WF nn t) (hn : nn ≤ 100) (hm : t.base.length ≤ 100) (hf : f ∉ j :: jr :: jb :: jo :: js) (hs : ∀ μ, st μ)
    (hZ : ∀ μ' o, Fr f μ0 μ' → μ'[f]? = some (.lst (cFs t.D (LP.cov nn t))) → Z.nx [some (.m j), some (.m f), o] μ') :
    ∀ (q i : Nat) (μ : Sto) (o : Option Cl) (F : List Int), i + q = t.base.length → TabX C N μ j (nn : Nat) (rowsOf t) (iN t.base) (iN t.others) t.D jr jb jo js → Fr f μ0 μ → μ[f]? = some (.lst (cFs t.D F)) → F.length = nn →
      LP.covF nn (t.base.drop i) ((t.rows.map fun q => gi q.2 nn).drop i) F = LP.cov nn t →
      forL (gN 2) (sIf (aTest (aOp fLt (aIx (aFld C "base" (aVar 0)) (aVar 2)) (aFld C "many" (aVar 0)))) (sAsg (aCall r_fraction (aCons (aIx (aIx (aFld C "rows" (aVar 0)) (aVar 2)) (aNeg (aC (.int 1)))) (aCons (aFld C "divisor" (aVar 0)) aNil))) (gIx (aVar 1) (aIx (aFld C "base" (aVar 0)) (aVar 2)))) sNext) st Z
        ((List.range' i q).map fun i => Cl.d (.int (i : Nat))) [some (.m j), some (.m f), o] μ
  | 0, i, μ, o, F, e, T, hfr, hF, hl, hc => by
    refine ⟨hs μ, hZ μ o hfr ?_⟩
    have e' : i = t.base.length := by omega
    subst e'
    rw [List.drop_length] at hc
    have : F = LP.cov nn t := by rw [← hc]; cases (t.rows.map fun q => gi q.2 nn).drop t.base.length <;> rfl
    rw [← this]; exact hF
  | q + 1, i, μ, o, F, e, T, hfr, hF, hl, hc => by
    have S := shp_of w hn hm
    have hi : i < t.base.length := by omega
    obtain ⟨row, hrow⟩ := row_ex w hi
    have hb := gn_get hi
    have hx : (t.rows.map fun q => gi q.2 nn)[i]? = some (gi row.2 nn) := by rw [List.getElem?_map, hrow]; rfl
    rw [drop_get hb, drop_get hx] at hc
    rw [List.range'_succ]
    refine ⟨hs μ, ?_⟩
    have pb : Pu (aIx (aFld C "base" (aVar 0)) (aVar 2)) [some (.m j), some (.m f), some (.d (.int (i : Nat)))] μ (.d (.int (gn t.base i : Nat))) := by
      refine tx_base_at T (pu_var rfl) (pu_var rfl) ?_
      rw [iat (l := iN t.base) (by rw [S.bl]; exact hi), iN_get]
    refine i_if (put (pu_lt pb (tx_many T (pu_var rfl)))) (fun hk => ?_) (fun hk => ?_)
    · have hk' : gn t.base i < nn := by have := of_decide_eq_true hk; omega
      have hc' : LP.covF nn (t.base.drop (i + 1)) ((t.rows.map fun q => gi q.2 nn).drop (i + 1)) (F.set (gn t.base i) (gi row.2 nn)) = LP.cov nn t := by
        rw [← hc]
        show _ = LP.covF nn _ _ (if gn t.base i < nn then F.set (gn t.base i) (gi row.2 nn) else F)
        rw [if_pos hk']
      refine i_call2 (tx_rhs T S (pu_var rfl) (pu_var rfl) (by omega)) (tx_div T (pu_var rfl)) ⟨_, _, rfl, by have := w.D1; omega, by have := w.D2; omega, ?_⟩
      rw [en_row hrow]
      refine i_gIx (pu_var rfl) pb hF (ixN_nat (by rw [List.length_map, hl]; exact hk')) ?_
      have ee : (cFs t.D F).set (gn t.base i) (.d (dF (fr (gi row.2 nn) t.D))) = cFs t.D (F.set (gn t.base i) (gi row.2 nn)) := List.map_set.symm
      rw [ee]
      exact frac_loop w hn hm hf hs hZ q (i + 1) _ _ (F.set (gn t.base i) (gi row.2 nn)) (by omega) (T.other hf) (hfr.set (Nat.le_refl _)) (at_same hF) (by rw [List.length_set]; exact hl) hc'
    · have hk' : ¬ gn t.base i < nn := by have := of_decide_eq_false hk; omega
      have hc' : LP.covF nn (t.base.drop (i + 1)) ((t.rows.map fun q => gi q.2 nn).drop (i + 1)) F = LP.cov nn t := by
        rw [← hc]
        show _ = LP.covF nn _ _ (if gn t.base i < nn then F.set (gn t.base i) (gi row.2 nn) else F)
        rw [if_neg hk']
      exact frac_loop w hn hm hf hs hZ q (i + 1) μ _ F (by omega) T hfr hF hl hc'
theorem dF_zero (D : Int) (hD : 1 ≤ D) (n : Nat) : (List.replicate n (PyData.tuple [.int 0, .int 1])).map Cl.d = cFs D (LP.rep n) := by
  unfold LP.rep
  rw [cFs, List.map_replicate, List.map_replicate, fr_zero (by omega)]; rfl
theorem h_tab_fractions (C : Addr) (cs : List Cl) (μ : Sto) (A : Cl → Sto → Prop) (er : Er) (h : r_tab_fractions C cs μ A er) : a_tab_fractions C r_fraction (bodyD μ A (fun _ _ => False)) (startE ns_tab_fractions cs) μ := by
  obtain ⟨N, j, nn, t, rfl, ⟨jr, jb, jo, js, T⟩, w, hn, hm, h⟩ := h
  show a_tab_fractions C _ _ [some (.m j), none, none] μ
  have S := shp_of w hn hm
  refine i_sasgN (i_ownRep1 (n := nn) (pu_lst1 pu_c) (tx_many T (pu_var rfl)) (by omega) ?_)
  rw [dF_zero t.D w.D1]
  have T1 := T.app (o := .lst (cFs t.D (LP.rep nn)))
  refine i_sfor (i_rg1 (n := t.base.length) (by have := pu_lenC (tx_base T1 (a := aVar 0) (ρ := [some (.m j), some (.m μ.length), none]) (pu_var rfl)) (cells_m T1.base); rwa [List.length_map, S.bl] at this) (by omega) ?_)
  rw [rgC0, List.range_eq_range']
  refine frac_loop (μ0 := μ) w hn hm T.new (fun _ => trivial) (fun μ' o fr hF => ?_) t.base.length 0 _ none (LP.rep nn) (by omega) T1 ((Fr.refl (Nat.le_refl _)).app) at_new (by unfold LP.rep; rw [List.length_replicate]) rfl
  exact i_ret (D := bodyD μ A (fun _ _ => False)) (ρ := [some (.m j), some (.m μ.length), o]) (pu_tupC (pu_var (i := 1) rfl) (cells_m hF) (dFs_cFs _ _)) (fin_fr fr h)
theorem wei_loop {C : Addr} {N j jr jb jo nn f : Nat} {js : List Nat} {t : LP.T} {μ0 : Sto} {st : Sto → Prop} {Z : AD} (w : LP.WF nn t) (hn : nn ≤ 100) (hm : t.base.length ≤ 100) (hf : f ∉ j :: jr :: jb :: jo :: js) (hs : ∀ μ, st μ)
    (hZ : ∀ μ' o, Fr f μ0 μ' → μ'[f]? = some (.lst (cFs t.D (LP.pak nn t.others t.base.length t.bot))) → Z.nx [some (.m j), some (.m f), o] μ') :
    ∀ (q i : Nat) (μ : Sto) (o : Option Cl) (F : List Int), i + q = nn → TabX C N μ j (nn : Nat) (rowsOf t) (iN t.base) (iN t.others) t.D jr jb jo js → Fr f μ0 μ → μ[f]? = some (.lst (cFs t.D F)) → F.length = t.base.length →
      LP.pakF nn (t.others.drop i) (t.bot.drop i) F = LP.pak nn t.others t.base.length t.bot →
      forL (gN 2) (sIf (aTest (aOp (fI pGe) (aIx (aFld C "others" (aVar 0)) (aVar 2)) (aFld C "many" (aVar 0)))) (sAsg (aCall r_fraction (aCons (aIx (aIx (aFld C "rows" (aVar 0)) (aNeg (aC (.int 1)))) (aVar 2)) (aCons (aFld C "divisor" (aVar 0)) aNil))) (gIx (aVar 1) (aOp fSub (aIx (aFld C "others" (aVar 0)) (aVar 2)) (aFld C "many" (aVar 0))))) sNext) st Z
        ((List.range' i q).map fun i => Cl.d (.int (i : Nat))) [some (.m j), some (.m f), o] μ
  | 0, i, μ, o, F, e, T, hfr, hF, hl, hc => by
    refine ⟨hs μ, hZ μ o hfr ?_⟩
    have e' : t.others.drop i = [] := List.drop_eq_nil_of_le (by rw [w.ol]; omega)
    rw [e'] at hc
    have : F = LP.pak nn t.others t.base.length t.bot := by rw [← hc]; cases t.bot.drop i <;> rfl
    rw [← this]; exact hF
  | q + 1, i, μ, o, F, e, T, hfr, hF, hl, hc => by
    have S := shp_of w hn hm
    have hi : i < nn := by omega
    have hb := gn_get (l := t.others) (k := i) (by rw [w.ol]; exact hi)
    have hx : t.bot[i]? = some (gi t.bot i) := gi_get (by rw [w.bot.1]; omega)
    rw [drop_get hb, drop_get hx] at hc
    rw [List.range'_succ]
    refine ⟨hs μ, ?_⟩
    have pb : Pu (aIx (aFld C "others" (aVar 0)) (aVar 2)) [some (.m j), some (.m f), some (.d (.int (i : Nat)))] μ (.d (.int (gn t.others i : Nat))) := by
      refine tx_others_at T (pu_var rfl) (pu_var rfl) ?_
      rw [iat (l := iN t.others) (by rw [S.ol]; exact hi), iN_get]
    have lt := w.lt (gn t.others i) (List.mem_append_right _ (List.mem_of_getElem? hb))
    refine i_if (put (pu_leI pb (tx_many T (pu_var rfl)))) (fun hk => ?_) (fun hk => ?_)
    · have hk' : nn ≤ gn t.others i := by have := of_decide_eq_true hk; omega
      have hc' : LP.pakF nn (t.others.drop (i + 1)) (t.bot.drop (i + 1)) (F.set (gn t.others i - nn) (gi t.bot i)) = LP.pak nn t.others t.base.length t.bot := by
        rw [← hc]
        show _ = LP.pakF nn _ _ (if nn ≤ gn t.others i then F.set (gn t.others i - nn) (gi t.bot i) else F)
        rw [if_pos hk']
      refine i_call2 (tx_bot T S (pu_var rfl) (pu_var rfl) (by omega)) (tx_div T (pu_var rfl)) ⟨_, _, rfl, by have := w.D1; omega, by have := w.D2; omega, ?_⟩
      rw [en_bot w]
      have pb2 : Pu (aOp fSub (aIx (aFld C "others" (aVar 0)) (aVar 2)) (aFld C "many" (aVar 0))) [some (.m j), some (.m f), some (.d (.int (i : Nat)))] μ (.d (.int ((gn t.others i - nn : Nat) : Int))) := by
        have := pu_sub pb (tx_many T (a := aVar 0) (ρ := [some (.m j), some (.m f), some (.d (.int (i : Nat)))]) (pu_var rfl))
        rw [Int.natCast_sub hk']; exact this
      refine i_gIx (pu_var rfl) pb2 hF (ixN_nat (by rw [List.length_map, hl]; omega)) ?_
      have ee : (cFs t.D F).set (gn t.others i - nn) (.d (dF (fr (gi t.bot i) t.D))) = cFs t.D (F.set (gn t.others i - nn) (gi t.bot i)) := List.map_set.symm
      rw [ee]
      exact wei_loop w hn hm hf hs hZ q (i + 1) _ _ (F.set (gn t.others i - nn) (gi t.bot i)) (by omega) (T.other hf) (hfr.set (Nat.le_refl _)) (at_same hF) (by rw [List.length_set]; exact hl) hc'
    · have hk' : ¬ nn ≤ gn t.others i := by have := of_decide_eq_false hk; omega
      have hc' : LP.pakF nn (t.others.drop (i + 1)) (t.bot.drop (i + 1)) F = LP.pak nn t.others t.base.length t.bot := by
        rw [← hc]
        show _ = LP.pakF nn _ _ (if nn ≤ gn t.others i then F.set (gn t.others i - nn) (gi t.bot i) else F)
        rw [if_neg hk']
      exact wei_loop w hn hm hf hs hZ q (i + 1) μ _ F (by omega) T hfr hF hl hc'
theorem h_tab_weights (C : Addr) (cs : List Cl) (μ : Sto) (A : Cl → Sto → Prop) (er : Er) (h : r_tab_weights C cs μ A er) : a_tab_weights C r_fraction (bodyD μ A (fun _ _ => False)) (startE ns_tab_weights cs) μ := by
  obtain ⟨N, j, nn, t, rfl, ⟨jr, jb, jo, js, T⟩, w, hn, hm, h⟩ := h
  show a_tab_weights C _ _ [some (.m j), none, none] μ
  have S := shp_of w hn hm
  have p0 : Pu (aCB fLen (aCons (aFld C "base" (aVar 0)) aNil)) [some (.m j), none, none] μ (.d (.int (t.base.length : Nat))) := by have := pu_lenC (tx_base T (a := aVar 0) (ρ := [some (.m j), none, none]) (pu_var rfl)) (cells_m T.base); rwa [List.length_map, S.bl] at this
  refine i_sasgN (i_ownRep1 (n := t.base.length) (pu_lst1 pu_c) p0 (by omega) ?_)
  rw [dF_zero t.D w.D1]
  have T1 := T.app (o := .lst (cFs t.D (LP.rep t.base.length)))
  refine i_sfor (i_rg1 (n := nn) (by have := pu_lenC (tx_others T1 (a := aVar 0) (ρ := [some (.m j), some (.m μ.length), none]) (pu_var rfl)) (cells_m T1.others); rwa [List.length_map, S.ol] at this) (by omega) ?_)
  rw [rgC0, List.range_eq_range']
  refine wei_loop (μ0 := μ) w hn hm T.new (fun _ => trivial) (fun μ' o fr hF => ?_) nn 0 _ none (LP.rep t.base.length) (by omega) T1 ((Fr.refl (Nat.le_refl _)).app) at_new (by unfold LP.rep; rw [List.length_replicate]) rfl
  exact i_ret (D := bodyD μ A (fun _ _ => False)) (ρ := [some (.m j), some (.m μ.length), o]) (pu_tupC (pu_var (i := 1) rfl) (cells_m hF) (dFs_cFs _ _)) (fin_fr fr h)
end Jh

set_option Elab.async false
set_option linter.all false
set_option maxRecDepth 100000
set_option maxHeartbeats 4000000
namespace Jh
open PySem PySem.Spec PyProof.Rows L2
open LP (gi gn All2 sg)
structure LPGood (sets : List (List Int)) (m : Nat) (D : Int) (cv pk : List Int) : Prop where
  D1 : 1 ≤ D
  D8 : D ≤ 8
  lc : cv.length = sets.length
  lp : pk.length = m
  c0 : ∀ x ∈ cv, 0 ≤ x ∧ x ≤ D
  p0 : ∀ x ∈ pk, 0 ≤ x
  s : LP.sum cv = LP.sum pk
  c : ∀ k, k < m → D ≤ LP.dot (maskOf sets k) cv
  p : ∀ a, a < sets.length → LP.packAt a (masksOf sets m) pk ≤ D
theorem len_covF (n : Nat) : ∀ (l : List Nat) (m F : List Int), (LP.covF n l m F).length = F.length
  | [], m, F => by cases m <;> rfl
  | b :: l, [], F => rfl
  | b :: l, x :: m, F => by
    show (LP.covF n l m (if b < n then F.set b x else F)).length = _
    rw [len_covF n l m]
    split
    · rw [List.length_set]
    · rfl
theorem len_pakF (n : Nat) : ∀ (l : List Nat) (m F : List Int), (LP.pakF n l m F).length = F.length
  | [], m, F => by cases m <;> rfl
  | b :: l, [], F => rfl
  | b :: l, x :: m, F => by
    show (LP.pakF n l m (if n ≤ b then F.set (b - n) x else F)).length = _
    rw [len_pakF n l m]
    split
    · rw [List.length_set]
    · rfl
def r_best_pair : RS := fun cs μ A _ => ∃ (jx m : Nat) (sets : List (List Int)), cs = [.m jx, .d (.int (m : Nat))] ∧ μ[jx]? = some (.lst (sets.map fun s => .d (dIL s))) ∧ 1 ≤ sets.length ∧ sets.length ≤ 4 ∧ 1 ≤ m ∧ m ≤ 4 ∧ (∀ k, k < m → (maskOf sets k).any (fun b => b) = true) ∧
  ∀ D cv pk, LPGood sets m D cv pk → A (.d (.tuple [.tuple (dFs D cv), .tuple (dFs D pk)])) μ
section
variable {a b : AX} {ρ : En} {μ : Sto} {c x y c1 c2 c3 : Cl} {C : Addr} {D : AD} {s u : ASt} {t : AT} {i f j : Nat} {e1 e2 e3 : AX} {R : RS}
theorem i_make2 {er : Er} {Q : Cl → Sto → Prop} (h1 : Pu e1 ρ μ c1) (h2 : Pu e2 ρ μ c2) (q : R [.m μ.length, c1, c2] (μ ++ [.ins C []]) (fun c μ2 => c = .d .none ∧ Q (.m μ.length) μ2) (fun _ _ => False)) : aMake C R (aCons e1 (aCons e2 aNil)) er ρ μ Q := h1 _ _ (h2 _ _ q)
end
theorem getF_solve (n : Int) (jr jb jo : Nat) (D : Int) : getF "solve" (flds n jr jb jo D) = none := rfl
theorem getF_fractions (n : Int) (jr jb jo : Nat) (D : Int) : getF "fractions" (flds n jr jb jo D) = none := rfl
theorem getF_weights (n : Int) (jr jb jo : Nat) (D : Int) : getF "weights" (flds n jr jb jo D) = none := rfl
theorem masksOf_len (sets : List (List Int)) (m : Nat) : (masksOf sets m).length = m := by simp [masksOf]
theorem h_best_pair (C : Addr) (cs : List Cl) (μ : Sto) (A : Cl → Sto → Prop) (er : Er) (h : r_best_pair cs μ A er) : a_best_pair C (r_tab_fractions C) (r_tab_init C) (r_tab_solve C) (r_tab_weights C) (bodyD μ A er) (startE ns_best_pair cs) μ := by
  obtain ⟨jx, m, sets, rfl, hx, n1, n4, m1, m4, hm, h⟩ := h
  show a_best_pair C _ _ _ _ _ [some (.m jx), some (.d (.int (m : Nat))), none] μ
  refine i_sasgN (i_make2 (pu_var rfl) (pu_var rfl) ?_)
  refine ⟨μ.length, μ.length, jx, m, sets, rfl, Nat.le_refl _, at_new, at_app hx, by omega, by omega, fun μ1 fr1 T1 => And.intro rfl ?_⟩
  have fr1' : Fr μ.length μ μ1 := (Fr.app (Fr.refl (Nat.le_refl _))).trans fr1
  have run : LP.Run sets.length (LP.t0 sets.length (masksOf sets m)) := LP.lp_run n1 n4 (by rw [masksOf_len]; exact m1) (by rw [masksOf_len]; exact m4) fun k hk => by
    obtain ⟨i, hi, rfl⟩ := List.mem_map.mp hk
    exact ⟨by unfold maskOf; rw [List.length_map], hm i (List.mem_range.mp hi)⟩
  have bl : (LP.t0 sets.length (masksOf sets m)).base.length = m := by
    show ((List.range (masksOf sets m).length).map _).length = m
    rw [List.length_map, List.length_range, masksOf_len]
  have T1' := T1
  obtain ⟨jr, jb, jo, js, X⟩ := T1'
  refine i_sexp (i_meth0 (pu_var rfl) X.obj (getF_solve ..) ⟨μ.length, μ.length, sets.length, _, rfl, fr1'.l, T1, run, by omega, by rw [bl]; omega, fun μ2 t' fr2 T2 w opt e1 e2 => ?_⟩)
  rw [bl] at e1
  have T2' := T2
  obtain ⟨jr2, jb2, jo2, js2, X2⟩ := T2'
  have e3 : t'.rows.map (·.1) = masksOf sets m := by
    rw [e2]
    show ((masksOf sets m).map _).map _ = _
    rw [List.map_map]
    exact List.map_id _
  have p1 : Pu (aMeth C "fractions" (r_tab_fractions C) (aVar 2) aNil) [some (.m jx), some (.d (.int (m : Nat))), some (.m μ.length)] μ2 (.d (.tuple (dFs t'.D (LP.cov sets.length t')))) :=
    pu_meth0 (pu_var rfl) X2.obj (getF_fractions ..) fun Q q => ⟨μ.length, μ.length, sets.length, t', rfl, T2, w, by omega, by omega, q⟩
  have p2 : Pu (aMeth C "weights" (r_tab_weights C) (aVar 2) aNil) [some (.m jx), some (.d (.int (m : Nat))), some (.m μ.length)] μ2 (.d (.tuple (dFs t'.D (LP.pak sets.length t'.others t'.base.length t'.bot)))) :=
    pu_meth0 (pu_var rfl) X2.obj (getF_weights ..) fun Q q => ⟨μ.length, μ.length, sets.length, t', rfl, T2, w, by omega, by omega, q⟩
  refine i_ret (pu_tup2 p1 p2) (fin_fr (fr1'.trans fr2) (h _ _ _ ⟨w.D1, opt.D, ?_, ?_, opt.c0, opt.p0, opt.s, fun k hk => ?_, fun a ha => ?_⟩))
  · unfold LP.cov; rw [len_covF, LP.rep, List.length_replicate]
  · unfold LP.pak; rw [len_pakF, LP.rep, List.length_replicate, e1]
  · have : maskOf sets k ∈ t'.rows.map (·.1) := by rw [e3]; exact List.mem_map.mpr ⟨k, List.mem_range.mpr hk, rfl⟩
    obtain ⟨q, hq, e⟩ := List.mem_map.mp this
    rw [← e]; exact opt.c q hq
  · rw [← e3]; exact opt.p a ha
/-! ### best_for -/
abbrev Atom := Str × List Str
abbrev dS (l : List Str) : PyData := .tuple (l.map .str)
abbrev dAtom (a : Atom) : PyData := .tuple [.str a.1, dS a.2]
abbrev dPat (hd : List Str) (as : List Atom) : PyData := .tuple [dS hd, .tuple (as.map dAtom)]
theorem inD_str (k : Str) (l : List Str) : inD (.str k) (l.map .str) = decide (k ∈ l) := by
  unfold inD
  induction l with
  | nil => simp
  | cons x l ih =>
    rw [List.map_cons, List.any_cons, ih, eqv_str]
    by_cases h : x = k
    · simp [h]
    · have : ¬ k = x := fun e => h e.symm
      simp [h, this]
def setOf (ch : List Str) (a : Atom) : List Int := ((List.range ch.length).filter fun k => decide (ch.getD k "" ∈ a.2)).map fun k => ((k : Nat) : Int)
def setsOf (as : List Atom) (ch : List Str) : List (List Int) := as.map (setOf ch)
def r_best_for : RS := fun cs μ A _ => ∃ (hd : List Str) (as : List Atom) (ch : List Str), cs = [.d (dPat hd as), .d (dS ch)] ∧ 1 ≤ as.length ∧ as.length ≤ 4 ∧ 1 ≤ ch.length ∧ ch.length ≤ 4 ∧ (∀ v ∈ ch, ∃ a ∈ as, v ∈ a.2) ∧
  ∀ D cv pk, LPGood (setsOf as ch) ch.length D cv pk → A (.d (.tuple [.tuple (dFs D cv), .tuple (dFs D pk)])) μ
theorem mask_setsOf (as : List Atom) (ch : List Str) {k : Nat} (hk : k < ch.length) : maskOf (setsOf as ch) k = as.map fun a => decide (ch.getD k "" ∈ a.2) := by
  unfold maskOf setsOf
  rw [List.map_map]
  apply List.map_congr_left
  intro a _
  show decide (((k : Nat) : Int) ∈ setOf ch a) = _
  apply decide_eq_decide.mpr
  unfold setOf
  rw [List.mem_map]
  constructor
  · rintro ⟨i, hi, e⟩
    have : i = k := by omega
    subst this
    exact of_decide_eq_true (List.mem_filter.mp hi).2
  · intro h
    exact ⟨k, List.mem_filter.mpr ⟨List.mem_range.mpr hk, decide_eq_true h⟩, rfl⟩
theorem bf_loop {hd : Cl} {ch : List Str} {f : Nat} {μ0 : Sto} {st : Sto → Prop} {Z : AD} (hl : ch.length ≤ 4) (hs : ∀ μ, st μ) : ∀ (as : List Atom) (μ : Sto) (S : List (List Int)) (o3 o4 : Option Cl), S.length + as.length ≤ 100 → Fr f μ0 μ → μ[f]? = some (.lst (S.map fun s => .d (dIL s))) →
    (∀ μ' o3 o4, Fr f μ0 μ' → μ'[f]? = some (.lst ((S ++ as.map (setOf ch)).map fun s => .d (dIL s))) → Z.nx [some hd, some (.d (dS ch)), some (.m f), o3, o4, none] μ') →
    forL (gTu 2 (gsCons (gN 3) (gsCons (gN 4) gsNil))) (sApp (aVar 2) (aFrz (aLc 5 [5] (aRg1 (aCons (aCB fLen (aCons (aVar 1) aNil)) aNil)) (aTest (aOp (fIn false) (aIx (aVar 1) (aVar 5)) (aVar 4))) (aVar 5)))) st Z ((as.map dAtom).map .d) [some hd, some (.d (dS ch)), some (.m f), o3, o4, none] μ
  | [], μ, S, o3, o4, _, hfr, hF, hZ => ⟨hs μ, hZ μ o3 o4 hfr (by simpa using hF)⟩
  | a :: as, μ, S, o3, o4, hle, hfr, hF, hZ => by
    refine ⟨hs μ, And.intro rfl ?_⟩
    have p : Pu (aFrz (aLc 5 [5] (aRg1 (aCons (aCB fLen (aCons (aVar 1) aNil)) aNil)) (aTest (aOp (fIn false) (aIx (aVar 1) (aVar 5)) (aVar 4))) (aVar 5))) [some hd, some (.d (dS ch)), some (.m f), some (.d (.str a.1)), some (.d (dS a.2)), none] μ (.d (dIL (setOf ch a))) := by
      refine pu_lc (cs := ((setOf ch a).map PyData.int).map .d) (fun er Q q => i_rg1 (n := ch.length) (by have := pu_lenC (pu_var (i := 1) (ρ := [some hd, some (.d (dS ch)), some (.m f), some (.d (.str a.1)), some (.d (dS a.2)), none]) (μ := μ) rfl) (cs := (ch.map PyData.str).map .d) rfl; rwa [List.length_map, List.length_map] at this) (by omega) q) (fun Q q => ?_) rfl
      refine lcL_rg (fun k => decide (ch.getD k "" ∈ a.2)) (fun k => .d (.int (k : Nat))) trivial (by omega) (fun i hi => ?_) (fun i hi _ => pu_var rfl) ?_
      · have g : ch[i]? = some (ch.getD i "") := by rw [List.getD_eq_getElem?_getD, List.getElem?_eq_getElem hi]; rfl
        have px : Pu (aIx (aVar 1) (aVar 5)) [some hd, some (.d (dS ch)), some (.m f), some (.d (.str a.1)), some (.d (dS a.2)), some (.d (.int (i : Nat)))] μ (.d (.str (ch.getD i ""))) :=
          pu_ix (x := .d (dS ch)) (i := ((i : Nat) : Int)) (cs := (ch.map PyData.str).map .d) (pu_var rfl) (pu_var rfl) rfl (atI_nat (by rw [List.getElem?_map, List.getElem?_map, g]; rfl))
        have pv : Pu (aVar 4) [some hd, some (.d (dS ch)), some (.m f), some (.d (.str a.1)), some (.d (dS a.2)), some (.d (.int (i : Nat)))] μ (.d (dS a.2)) := pu_var rfl
        have e := pu_in (n := false) (cs := (a.2.map PyData.str).map .d) (ds := a.2.map PyData.str) px pv rfl (allD_map _) (Nat.le_of_ble_eq_true rfl)
        rw [inD_str] at e
        have e2 : (false != decide (ch.getD i "" ∈ a.2)) = decide (ch.getD i "" ∈ a.2) := by cases decide (ch.getD i "" ∈ a.2) <;> rfl
        rw [e2] at e
        exact put e
      · have e : (((List.range ch.length).filter fun k => decide (ch.getD k "" ∈ a.2)).map fun k => Cl.d (.int (k : Nat))) = ((setOf ch a).map PyData.int).map .d := by
          unfold setOf; rw [List.map_map, List.map_map]; rfl
        rw [e]; exact q
    refine i_appP (pu_var (i := 2) (c := .m f) rfl) hF p (by rw [List.length_map]; simp at hle; omega) ?_
    refine bf_loop hl hs as _ (S ++ [setOf ch a]) _ _ (by simp at hle ⊢; omega) (hfr.set (Nat.le_refl _)) ?_ fun μ' o3 o4 h1 h2 => hZ μ' o3 o4 h1 ?_
    · rw [at_same hF]; simp
    · rw [h2]; simp
theorem h_best_for (cs : List Cl) (μ : Sto) (A : Cl → Sto → Prop) (er : Er) (h : r_best_for cs μ A er) : a_best_for r_best_pair (bodyD μ A er) (startE ns_best_for cs) μ := by
  obtain ⟨hd, as, ch, rfl, n1, n4, m1, m4, hv, h⟩ := h
  show a_best_for _ _ [some (.d (dPat hd as)), some (.d (dS ch)), none, none, none, none] μ
  refine i_sasgN (a := aOwn (aLst aNil)) (And.intro (Nat.le_of_ble_eq_true rfl) ?_)
  have p1 : Pu (aIx (aVar 0) (aC (.int 1))) [some (.d (dPat hd as)), some (.d (dS ch)), some (.m μ.length), none, none, none] (μ ++ [.lst []]) (.d (.tuple (as.map dAtom))) := pu_ix (x := .d (dPat hd as)) (i := 1) (cs := [.d (dS hd), .d (.tuple (as.map dAtom))]) (pu_var rfl) pu_c rfl rfl
  refine i_sfor (i_seqI p1 rfl ?_)
  refine bf_loop (μ0 := μ) m4 (fun _ => trivial) as _ [] none none (by simp; omega) ((Fr.refl (Nat.le_refl _)).app) at_new fun μ' o3 o4 hfr hF => ?_
  rw [List.nil_append] at hF
  have p2 : Pu (aCB fLen (aCons (aVar 1) aNil)) [some (.d (dPat hd as)), some (.d (dS ch)), some (.m μ.length), o3, o4, none] μ' (.d (.int (ch.length : Nat))) := by
    have := pu_lenC (pu_var (i := 1) (ρ := [some (.d (dPat hd as)), some (.d (dS ch)), some (.m μ.length), o3, o4, none]) (μ := μ') rfl) (cs := (ch.map PyData.str).map .d) rfl; rwa [List.length_map, List.length_map] at this
  have p3 : Pu (aVar 2) [some (.d (dPat hd as)), some (.d (dS ch)), some (.m μ.length), o3, o4, none] μ' (.m μ.length) := pu_var rfl
  refine i_call2 (R := r_best_pair) (er := (bodyD μ A er).er) p3 p2 ⟨μ.length, ch.length, setsOf as ch, rfl, hF, by unfold setsOf; rw [List.length_map]; exact n1, by unfold setsOf; rw [List.length_map]; exact n4, m1, m4, fun k hk => ?_, fun D cv pk g => fin_fr hfr (h D cv pk g)⟩
  rw [mask_setsOf as ch hk, List.any_map]
  have g : ch.getD k "" ∈ ch := by
    rw [List.getD_eq_getElem?_getD, List.getElem?_eq_getElem hk]; exact List.getElem_mem hk
  obtain ⟨a, ha, hv⟩ := hv _ g
  exact List.any_eq_true.mpr ⟨a, ha, decide_eq_true hv⟩
end Jh

set_option Elab.async false
set_option linter.all false
set_option maxRecDepth 100000
set_option maxHeartbeats 4000000
namespace Jh
open PySem PySem.Spec PyProof.Rows L2
section
variable {a b e : AX} {ρ : En} {μ : Sto} {c x y : Cl} {D : AD}
theorem neg_false (b : Bool) : (false != b) = b := by cases b <;> rfl
theorem neg_true (b : Bool) : (true != b) = !b := by cases b <;> rfl
theorem pu_eqS {n : Bool} {s t : Str} (ha : Pu a ρ μ (.d (.str s))) (hb : Pu b ρ μ (.d (.str t))) : Pu (aOp (fEq n) a b) ρ μ (.d (.bool (n != decide (s = t)))) := fun er Q q => ha er _ (hb er _ (And.intro (show (0 : Nat) ≤ 32 by decide) (by rw [eqv_str]; exact q)))
theorem pu_lenS {s : Str} (ha : Pu a ρ μ (.d (.str s))) (h : s.length ≤ 1000) : Pu (aCB fLen (aCons a aNil)) ρ μ (.d (.int s.length)) := fun er Q q => ha er _ (And.intro h q)
theorem pu_ixS {s : Str} {i : Int} {n : Nat} (ha : Pu a ρ μ (.d (.str s))) (hb : Pu b ρ μ (.d (.int i))) (h : s.length ≤ 1000) (hi : atI s.cps.toList i = some n) : Pu (aIx a b) ρ μ (.d (.str ⟨#[n]⟩)) := fun er Q q => ha er _ (hb er _ (by
  show s.length ≤ 1000 ∧ (match atI s.cps.toList i with | some c => Q (.d (.str ⟨#[c]⟩)) μ | none => False)
  rw [hi]; exact ⟨h, q⟩))
theorem pu_inS {n : Bool} {i : Nat} {z : Str} (ha : Pu a ρ μ (.d (.str ⟨#[i]⟩))) (hb : Pu b ρ μ (.d (.str z))) : Pu (aOp (fIn n) a b) ρ μ (.d (.bool (n != decide (i ∈ z.cps.toList)))) := fun er Q q => ha er _ (hb er _ q)
theorem pu_all {α : Type} {l : List α} {g : α → Bool} (ha : Pu a ρ μ (.d (.list (l.map fun x => .bool (g x))))) : Pu (aCB fAll (aCons a aNil)) ρ μ (.d (.bool (l.all g))) := fun er Q q => ha er _ (by
  show match allB ((l.map fun x => PyData.bool (g x)).map Cl.d) with | some bs => Q (.d (.bool (bs.all (fun b => b)))) μ | none => False
  have e : (l.map fun x => PyData.bool (g x)).map Cl.d = l.map fun x => Cl.d (.bool (g x)) := by rw [List.map_map]; rfl
  rw [e, allB_map]
  show Q (.d (.bool ((l.map g).all (fun b => b)))) μ
  rw [List.all_map]; exact q)
theorem pu_any {α : Type} {l : List α} {g : α → Bool} (ha : Pu a ρ μ (.d (.list (l.map fun x => .bool (g x))))) : Pu (aCB fAny (aCons a aNil)) ρ μ (.d (.bool (l.any g))) := fun er Q q => ha er _ (by
  show match allB ((l.map fun x => PyData.bool (g x)).map Cl.d) with | some bs => Q (.d (.bool (bs.any (fun b => b)))) μ | none => False
  have e : (l.map fun x => PyData.bool (g x)).map Cl.d = l.map fun x => Cl.d (.bool (g x)) := by rw [List.map_map]; rfl
  rw [e, allB_map]
  show Q (.d (.bool ((l.map g).any (fun b => b)))) μ
  rw [List.any_map]; exact q)
theorem pu_chain {p q' : Int → Int → Bool} {i j k : Int} (ha : Pu a ρ μ (.d (.int i))) (hb : Pu b ρ μ (.d (.int j))) (he : Pu e ρ μ (.d (.int k))) : Pu (aChain (fI p) (fI q') a b e) ρ μ (.d (.bool (p i j && q' j k))) := fun er Q q => ha er _ (hb er _ (by
  show match Cl.d (.bool (p i j)) with | .d (.bool true) => _ | .d (.bool false) => Q (.d (.bool false)) μ | _ => False
  cases h : p i j with
  | true => rw [h] at q; exact he er _ q
  | false => rw [h] at q; exact q))
/-- a comprehension over data, every item taken -/
theorem pu_lcD {α : Type} {j : Nat} {vs : List Nat} {I : AI} {l : List α} {g : α → Cl} {f : α → PyData} {st : Sto → Prop} (hI : ∀ er Q, Q (l.map g) st μ → I er ρ μ Q) (hs : st μ) (ha : ∀ y ∈ l, Pu a ((wipeE ρ vs).set j (some (g y))) μ (.d (f y))) (hl : l.length ≤ 1000) : Pu (aFrz (aLc j vs I aYes a)) ρ μ (.d (.list (l.map f))) :=
  pu_lc (cs := l.map fun y => Cl.d (f y)) hI (fun Q q => lcL_mapF g (fun y => .d (f y)) hs l [] ha (by simpa using hl) (by simpa using q)) (by rw [List.map_map]; rfl)
/-- walking a tuple or list that is data -/
theorem i_seqD {er : Er} {Q : List Cl → (Sto → Prop) → Sto → Prop} {d : PyData} {l : List PyData} (ha : Pu a ρ μ (.d d)) (hd : SeqD d l) (h : Q (l.map .d) (fun _ => True) μ) : aSeqI a er ρ μ Q := i_seqI ha (seqD_cells hd μ) h
theorem i_rg2 {m n : Int} {k : Nat} {er : Er} {Q : List Cl → (Sto → Prop) → Sto → Prop} (ha : Pu a ρ μ (.d (.int m))) (hb : Pu b ρ μ (.d (.int n))) (h1 : -1000000 ≤ m ∧ m ≤ 1000000) (h2 : -1000000 ≤ n ∧ n ≤ 1000000) (hk : (n - m).toNat = k) (h : Q (rgC m k) (fun _ => True) μ) : aRg2 (aCons a (aCons b aNil)) er ρ μ Q :=
  ha er _ (hb er _ (And.intro h1.1 (And.intro h1.2 (And.intro h2.1 (And.intro h2.2 (by rw [hk]; exact h))))))
theorem pu_lenD {d : PyData} {l : List PyData} (ha : Pu a ρ μ (.d d)) (hd : SeqD d l) : Pu (aCB fLen (aCons a aNil)) ρ μ (.d (.int (l.length : Nat))) := by
  have := pu_lenC ha (seqD_cells hd μ); rwa [List.length_map] at this
theorem pu_ixD {d d' : PyData} {l : List PyData} {i : Nat} (ha : Pu a ρ μ (.d d)) (hb : Pu b ρ μ (.d (.int (i : Nat)))) (hd : SeqD d l) (hi : l[i]? = some d') : Pu (aIx a b) ρ μ (.d d') :=
  pu_ix ha hb (seqD_cells hd μ) (atI_nat (by rw [List.getElem?_map, hi]; rfl))
theorem pu_inD {n : Bool} {d d' : PyData} {l : List PyData} (ha : Pu a ρ μ (.d d)) (hb : Pu b ρ μ (.d d')) (hd : SeqD d' l) (hdep : d.depth ≤ 32) : Pu (aOp (fIn n) a b) ρ μ (.d (.bool (n != inD d l))) :=
  pu_in ha hb (seqD_cells hd μ) (allD_map l) hdep
end
/-! ### names -/
structure GoodName (s : Str) : Prop where
  ne : s.cps.toList ≠ []
  len : s.length ≤ 20
  hd : ∀ c, s.cps.toList[0]? = some c → c ∈ k_LETTERS.cps.toList
  all : ∀ c ∈ s.cps.toList, c ∈ k_NAME_SIGNS.cps.toList
def r_is_name : RS := fun cs μ A _ => ∃ s, cs = [.d (.str s)] ∧ GoodName s ∧ A (.d (.bool true)) μ
theorem str_len (s : Str) : s.length = s.cps.toList.length := by
  show s.cps.size = _
  rw [Array.length_toList]
theorem h_is_name (cs : List Cl) (μ : Sto) (A : Cl → Sto → Prop) (er : Er) (h : r_is_name cs μ A er) : a_is_name (bodyD μ A er) (startE ns_is_name cs) μ := by
  obtain ⟨s, rfl, g, h⟩ := h
  show a_is_name _ [some (.d (.str s)), none] μ
  have l20 := g.len
  have hne : s ≠ "" := fun e => g.ne (by rw [e]; rfl)
  obtain ⟨c0, hc⟩ : ∃ c, s.cps.toList[0]? = some c := by
    cases z : s.cps.toList with
    | nil => exact absurd z g.ne
    | cons c l => exact ⟨c, rfl⟩
  have p0 : Pu (aVar 0) [some (.d (.str s)), none] μ (.d (.str s)) := pu_var rfl
  have t1 := put (pu_eqS (n := false) p0 (pu_c (d := .str "")))
  have t2 := put (pu_I (p := pGt) (pu_lenS p0 (by omega)) (pu_c (d := .int 20)))
  have t3 := put (pu_inS (n := true) (pu_ixS p0 (pu_c (d := .int 0)) (by omega) (atI_nat (i := 0) hc)) (pu_c (d := .str k_LETTERS)))
  refine i_sifN (put_or t1 fun _ => put_or t2 fun _ => t3) (fun hk => ?_) (fun _ => ?_)
  · rw [neg_false, neg_true, decide_eq_false hne, decide_eq_true (g.hd _ hc)] at hk
    have e : pGt (s.length : Int) 20 = false := by unfold pGt; exact decide_eq_false (by omega)
    rw [e] at hk
    cases hk
  · have pl : Pu (aFrz (aLc 1 [1] (aStrI (aVar 0)) aYes (aOp (fIn false) (aVar 1) (aC (.str k_NAME_SIGNS))))) [some (.d (.str s)), none] μ (.d (.list (s.cps.toList.map fun i => .bool (decide (i ∈ k_NAME_SIGNS.cps.toList))))) := by
      refine pu_lcD (g := fun i => .d (.str ⟨#[i]⟩)) (st := fun _ => True) (fun er Q q => p0 er _ q) trivial (fun i hi => ?_) (by rw [← str_len]; omega)
      have := pu_inS (n := false) (i := i) (z := k_NAME_SIGNS) (ρ := [some (.d (.str s)), some (.d (.str ⟨#[i]⟩))]) (μ := μ) (pu_var (i := 1) rfl) pu_c
      rwa [neg_false] at this
    refine i_ret (pu_all pl) ?_
    have e : s.cps.toList.all (fun i => decide (i ∈ k_NAME_SIGNS.cps.toList)) = true := List.all_eq_true.mpr fun i hi => decide_eq_true (g.all i hi)
    rw [e]
    exact .inl h
/-! ### tables -/
def r_right_row : RS := fun cs μ A _ => ∃ (k : Int) (row : List Int), cs = [.d (.int k), .d (dL row)] ∧ (row.length : Int) = k ∧ row.length ≤ 100 ∧ (∀ x ∈ row, -999999999 ≤ x ∧ x ≤ 999999999) ∧ A (.d (.bool true)) μ
theorem h_right_row (cs : List Cl) (μ : Sto) (A : Cl → Sto → Prop) (er : Er) (h : r_right_row cs μ A er) : a_right_row (bodyD μ A er) (startE ns_right_row cs) μ := by
  obtain ⟨k, row, rfl, hk, hl, hr, h⟩ := h
  show a_right_row _ [some (.d (.int k)), some (.d (dL row)), none] μ
  have p1 : Pu (aVar 1) [some (.d (.int k)), some (.d (dL row)), none] μ (.d (dL row)) := pu_var rfl
  have p0 : Pu (aVar 0) [some (.d (.int k)), some (.d (dL row)), none] μ (.d (.int k)) := pu_var rfl
  have sd : SeqD (dL row) (row.map .int) := .inr rfl
  have pl : Pu (aFrz (aLc 2 [2] (aSeqI (aVar 1)) aYes (aChain (fI pLe) (fI pLe) (aNeg (aC (.int 999999999))) (aVar 2) (aC (.int 999999999))))) [some (.d (.int k)), some (.d (dL row)), none] μ (.d (.list (row.map fun x => .bool (pLe (-999999999) x && pLe x 999999999)))) :=
    pu_lcD (g := fun x => .d (.int x)) (st := fun _ => True) (fun er Q q => i_seqD p1 sd (by rw [List.map_map]; exact q)) trivial (fun x hx => pu_chain (pu_neg pu_c) (pu_var rfl) pu_c) (by omega)
  refine i_ret (pu_and (pu_eqI (n := false) (pu_lenD p1 sd) p0) fun _ => pu_all pl) ?_
  have e : row.all (fun x => pLe (-999999999) x && pLe x 999999999) = true := List.all_eq_true.mpr fun x hx => by
    have := hr x hx
    unfold pLe
    rw [decide_eq_true this.1, decide_eq_true this.2]; rfl
  rw [e, neg_false, List.length_map, decide_eq_true hk]
  exact .inl h
/-- each is less than the next -/
def AscD (ds : List PyData) (μ : Sto) : Prop := ∀ (k : Nat) d e, ds[k]? = some d → ds[k + 1]? = some e → ∀ Q : Cl → Sto → Prop, Q (.d (.bool true)) μ → fLt (.d d) (.d e) μ Q
def r_ascend : RS := fun cs μ A _ => ∃ (x : PyData) (ds : List PyData), cs = [.d x] ∧ SeqD x ds ∧ ds.length ≤ 1000 ∧ AscD ds μ ∧ A (.d (.bool true)) μ
theorem h_ascend (cs : List Cl) (μ : Sto) (A : Cl → Sto → Prop) (er : Er) (h : r_ascend cs μ A er) : a_ascend (bodyD μ A er) (startE ns_ascend cs) μ := by
  obtain ⟨x, ds, rfl, hx, hl, ha, h⟩ := h
  show a_ascend _ [some (.d x), none] μ
  have p0 : Pu (aVar 0) [some (.d x), none] μ (.d x) := pu_var rfl
  have pl : Pu (aFrz (aLc 1 [1] (aRg2 (aCons (aC (.int 1)) (aCons (aCB fLen (aCons (aVar 0) aNil)) aNil))) aYes (aOp fLt (aIx (aVar 0) (aOp fSub (aVar 1) (aC (.int 1)))) (aIx (aVar 0) (aVar 1))))) [some (.d x), none] μ (.d (.list ((List.range (ds.length - 1)).map fun _ => .bool true))) := by
    refine pu_lcD (g := fun i => .d (.int (1 + (i : Nat)))) (st := fun _ => True) (fun er Q q => i_rg2 (k := ds.length - 1) (pu_c (d := .int 1)) (pu_lenD p0 hx) (by omega) (by omega) (by omega) q) trivial (fun i hi => ?_) (by simp; omega)
    · have hi' := List.mem_range.mp hi
      have g1 : ds[i]? = some ds[i] := List.getElem?_eq_getElem (by omega)
      have g2 : ds[i + 1]? = some ds[i + 1] := List.getElem?_eq_getElem (by omega)
      have q0 : Pu (aVar 0) [some (.d x), some (.d (.int (1 + (i : Nat))))] μ (.d x) := pu_var rfl
      have q1 : Pu (aOp fSub (aVar 1) (aC (.int 1))) [some (.d x), some (.d (.int (1 + (i : Nat))))] μ (.d (.int (i : Nat))) := by
        have := pu_sub (i := 1 + (i : Nat)) (j := 1) (ρ := [some (.d x), some (.d (.int (1 + (i : Nat))))]) (μ := μ) (pu_var (i := 1) rfl) pu_c
        rwa [show (1 + (i : Int)) - 1 = (i : Int) by omega] at this
      have q2 : Pu (aVar 1) [some (.d x), some (.d (.int (1 + (i : Nat))))] μ (.d (.int ((i + 1 : Nat) : Int))) := by
        have : (1 + (i : Int)) = ((i + 1 : Nat) : Int) := by omega
        rw [this]; exact pu_var rfl
      intro er Q q
      exact pu_ixD q0 q1 hx g1 er _ (pu_ixD q0 q2 hx g2 er _ (ha i _ _ g1 g2 Q q))
  refine i_ret (pu_all (g := fun _ => true) pl) ?_
  have e : (List.range (ds.length - 1)).all (fun _ => true) = true := List.all_eq_true.mpr fun _ _ => rfl
  rw [e]
  exact .inl h
structure Tb where
  nm : Str
  cols : Int
  rows : List (List Int)
abbrev dTb (t : Tb) : PyData := .tuple [.str t.nm, .int t.cols, .tuple (t.rows.map dL)]
abbrev dCat (c : List Tb) : PyData := .tuple (c.map dTb)
structure GoodTb (t : Tb) : Prop where
  nm : GoodName t.nm
  c1 : 1 ≤ t.cols
  c4 : t.cols ≤ 4
  row : ∀ r ∈ t.rows, (r.length : Int) = t.cols ∧ ∀ x ∈ r, 0 ≤ x ∧ x ≤ 1000
  len : t.rows.length ≤ 100
  asc : ∀ (k : Nat) r r', t.rows[k]? = some r → t.rows[k + 1]? = some r' → r < r'
structure GoodCat (c : List Tb) : Prop where
  tb : ∀ t ∈ c, GoodTb t
  len : c.length ≤ 8
  asc : ∀ (k : Nat) t t', c[k]? = some t → c[k + 1]? = some t' → t.nm.cps.toList < t'.nm.cps.toList
theorem lt_dL {x y : List Int} {μ : Sto} {Q : Cl → Sto → Prop} (h : x < y) (q : Q (.d (.bool true)) μ) : fLt (.d (dL x)) (.d (dL y)) μ Q := by
  refine And.intro (dL_alike x y) (And.intro (fun e => by cases e) (And.intro (Nat.le_trans (dL_depth x) (by decide)) ?_))
  rw [dL_lt, decide_eq_true h]; exact q
theorem lt_str {x y : Str} {μ : Sto} {Q : Cl → Sto → Prop} (h : x.cps.toList < y.cps.toList) (q : Q (.d (.bool true)) μ) : fLt (.d (.str x)) (.d (.str y)) μ Q := by
  refine And.intro (by simp only [PySem.W.alike]) (And.intro (fun e => by cases e) (And.intro (Nat.le_of_ble_eq_true rfl) ?_))
  rw [PySem.W.dataLt_str, decide_eq_true h]; exact q
def r_right_table : RS := fun cs μ A _ => ∃ t, cs = [.d (dTb t)] ∧ GoodTb t ∧ A (.d (.bool true)) μ
theorem h_right_table (cs : List Cl) (μ : Sto) (A : Cl → Sto → Prop) (er : Er) (h : r_right_table cs μ A er) : a_right_table r_ascend r_is_name r_right_row (bodyD μ A er) (startE ns_right_table cs) μ := by
  obtain ⟨t, rfl, g, h⟩ := h
  show a_right_table _ _ _ _ [some (.d (dTb t)), none, none, none, none] μ
  refine i_sg3 (pu_var rfl) ?_
  have p1 : Pu (aVar 1) [some (.d (dTb t)), some (.d (.str t.nm)), some (.d (.int t.cols)), some (.d (.tuple (t.rows.map dL))), none] μ (.d (.str t.nm)) := pu_var rfl
  have p2 : Pu (aVar 2) [some (.d (dTb t)), some (.d (.str t.nm)), some (.d (.int t.cols)), some (.d (.tuple (t.rows.map dL))), none] μ (.d (.int t.cols)) := pu_var rfl
  have p3 : Pu (aVar 3) [some (.d (dTb t)), some (.d (.str t.nm)), some (.d (.int t.cols)), some (.d (.tuple (t.rows.map dL))), none] μ (.d (.tuple (t.rows.map dL))) := pu_var rfl
  have t1 := put_not (put (pu_call1 (R := r_is_name) (c := .d (.bool true)) p1 fun er Q q => ⟨t.nm, rfl, g.nm, q⟩))
  refine i_sifN (put_or t1 fun _ => put_or (put (pu_lt p2 (pu_c (d := .int 1)))) fun _ => put (pu_I (p := pGt) p2 (pu_c (d := .int 4)))) (fun hk => ?_) (fun _ => ?_)
  · have c1 := g.c1
    have c4 := g.c4
    have e : pGt t.cols 4 = false := by unfold pGt; exact decide_eq_false (by omega)
    rw [decide_eq_false (by omega), e] at hk
    cases hk
  · have sd : SeqD (.tuple (t.rows.map dL)) (t.rows.map dL) := .inr rfl
    have pl : Pu (aFrz (aLc 4 [4] (aSeqI (aVar 3)) aYes (aCall r_right_row (aCons (aVar 2) (aCons (aVar 4) aNil))))) [some (.d (dTb t)), some (.d (.str t.nm)), some (.d (.int t.cols)), some (.d (.tuple (t.rows.map dL))), none] μ (.d (.list (t.rows.map fun _ => .bool true))) :=
      pu_lcD (g := fun r => .d (dL r)) (st := fun _ => True) (fun er Q q => i_seqD p3 sd (by rw [List.map_map]; exact q)) trivial (fun r hr => pu_call2 (c1 := .d (.int t.cols)) (c2 := .d (dL r)) (pu_var rfl) (pu_var rfl) fun er Q q => by
        have gr := g.row r hr
        refine ⟨t.cols, r, rfl, gr.1, by have := g.c4; omega, fun x hx => ?_, q⟩
        have := gr.2 x hx
        omega) (by have := g.len; omega)
    have pa : Pu (aCall r_ascend (aCons (aVar 3) aNil)) [some (.d (dTb t)), some (.d (.str t.nm)), some (.d (.int t.cols)), some (.d (.tuple (t.rows.map dL))), none] μ (.d (.bool true)) :=
      pu_call1 p3 fun er Q q => ⟨_, _, rfl, sd, by rw [List.length_map]; have := g.len; omega, fun k d e hd he Q q => by
        rw [List.getElem?_map, Option.map_eq_some_iff] at hd he
        obtain ⟨r, hr, rfl⟩ := hd
        obtain ⟨r', hr', rfl⟩ := he
        exact lt_dL (g.asc k r r' hr hr') q, q⟩
    refine i_ret (pu_and (pu_all (g := fun _ => true) pl) fun _ => pa) ?_
    have e : t.rows.all (fun _ => true) = true := List.all_eq_true.mpr fun _ _ => rfl
    rw [e]
    exact .inl h
def r_check_catalogue : RS := fun cs μ A _ => ∃ c, cs = [.d (dCat c)] ∧ GoodCat c ∧ A (.d .none) μ
theorem h_check_catalogue (cs : List Cl) (μ : Sto) (A : Cl → Sto → Prop) (er : Er) (h : r_check_catalogue cs μ A er) : a_check_catalogue r_ascend r_right_table (bodyD μ A er) (startE ns_check_catalogue cs) μ := by
  obtain ⟨c, rfl, g, h⟩ := h
  show a_check_catalogue _ _ _ [some (.d (dCat c)), none] μ
  have p0 : Pu (aVar 0) [some (.d (dCat c)), none] μ (.d (dCat c)) := pu_var rfl
  have sd : SeqD (dCat c) (c.map dTb) := .inr rfl
  have len := g.len
  have pl : Pu (aFrz (aLc 1 [1] (aSeqI (aVar 0)) aYes (aCall r_right_table (aCons (aVar 1) aNil)))) [some (.d (dCat c)), none] μ (.d (.list (c.map fun _ => .bool true))) :=
    pu_lcD (g := fun t => .d (dTb t)) (st := fun _ => True) (fun er Q q => i_seqD p0 sd (by rw [List.map_map]; exact q)) trivial (fun t ht => pu_call1 (c1 := .d (dTb t)) (pu_var rfl) fun er Q q => ⟨t, rfl, g.tb t ht, q⟩) (by omega)
  have pn : Pu (aFrz (aLc 1 [1] (aSeqI (aVar 0)) aYes (aIx (aVar 1) (aC (.int 0))))) [some (.d (dCat c)), none] μ (.d (.list (c.map fun t => .str t.nm))) :=
    pu_lcD (g := fun t => .d (dTb t)) (st := fun _ => True) (fun er Q q => i_seqD p0 sd (by rw [List.map_map]; exact q)) trivial (fun t ht => pu_ixD (d := dTb t) (i := 0) (l := [.str t.nm, .int t.cols, .tuple (t.rows.map dL)]) (pu_var rfl) pu_c (.inr rfl) rfl) (by omega)
  have pa : Pu (aCall r_ascend (aCons (aFrz (aLc 1 [1] (aSeqI (aVar 0)) aYes (aIx (aVar 1) (aC (.int 0))))) aNil)) [some (.d (dCat c)), none] μ (.d (.bool true)) :=
    pu_call1 pn fun er Q q => ⟨_, _, rfl, .inl rfl, by rw [List.length_map]; omega, fun k d e hd he Q q => by
      rw [List.getElem?_map, Option.map_eq_some_iff] at hd he
      obtain ⟨r, hr, rfl⟩ := hd
      obtain ⟨r', hr', rfl⟩ := he
      exact lt_str (g.asc k r r' hr hr') q, q⟩
  refine i_sifN (put_or (put_not (put (pu_all (g := fun _ => true) pl))) fun _ => put_not (put pa)) (fun hk => ?_) (fun _ => ?_)
  · have e : c.all (fun _ => true) = true := List.all_eq_true.mpr fun _ _ => rfl
    rw [e] at hk
    cases hk
  · have pm : Pu (aFrz (aLc 1 [1] (aSeqI (aVar 0)) aYes (aOp (fI pGt) (aCB fLen (aCons (aIx (aVar 1) (aC (.int 2))) aNil)) (aC (.int 300))))) [some (.d (dCat c)), none] μ (.d (.list (c.map fun t => .bool (pGt (t.rows.length : Nat) 300)))) :=
      pu_lcD (g := fun t => .d (dTb t)) (st := fun _ => True) (fun er Q q => i_seqD p0 sd (by rw [List.map_map]; exact q)) trivial (fun t ht => by
        have q1 : Pu (aIx (aVar 1) (aC (.int 2))) [some (.d (dCat c)), some (.d (dTb t))] μ (.d (.tuple (t.rows.map dL))) := pu_ixD (d := dTb t) (i := 2) (l := [.str t.nm, .int t.cols, .tuple (t.rows.map dL)]) (pu_var rfl) pu_c (.inr rfl) rfl
        have q2 := pu_lenD q1 (l := t.rows.map dL) (.inr rfl)
        rw [List.length_map] at q2
        exact pu_I q2 pu_c) (by omega)
    have q3 := pu_lenD p0 sd
    rw [List.length_map] at q3
    refine i_if (put_or (put (pu_I (p := pGt) q3 (pu_c (d := .int 8)))) fun _ => put (pu_any pm)) (fun hk => ?_) (fun _ => ?_)
    · have e1 : pGt (c.length : Nat) 8 = false := by unfold pGt; exact decide_eq_false (by omega)
      have e2 : c.any (fun t => pGt (t.rows.length : Nat) 300) = false := by
        rw [List.any_eq_false]
        intro t ht
        have := (g.tb t ht).len
        unfold pGt
        simp; omega
      rw [e1, e2] at hk
      cases hk
    · exact .inl h
/-! ### a table by its name -/
/-- the first table of this name -/
def FirstAt (c : List Tb) (nm : Str) (i : Nat) (t : Tb) : Prop := c[i]? = some t ∧ t.nm = nm ∧ ∀ k t', k < i → c[k]? = some t' → t'.nm ≠ nm
def r_place_of : RS := fun cs μ A _ => ∃ c nm i t, cs = [.d (dCat c), .d (.str nm)] ∧ FirstAt c nm i t ∧ c.length ≤ 100 ∧ A (.d (.int (i : Nat))) μ
theorem place_loop {c : List Tb} {nm : Str} {i0 : Nat} {t0 : Tb} {μ : Sto} {st : Sto → Prop} {Z : AD} (hs : st μ) (hf : FirstAt c nm i0 t0) (hZ : Z.rt (.d (.int (i0 : Nat))) μ) : ∀ (q i : Nat) (o : Option Cl), i + q = c.length → i ≤ i0 →
    forL (gN 2) (sIf (aTest (aOp (fEq false) (aIx (aIx (aVar 0) (aVar 2)) (aC (.int 0))) (aVar 1))) (sRet (aVar 2)) sNext) st Z ((List.range' i q).map fun i => Cl.d (.int (i : Nat))) [some (.d (dCat c)), some (.d (.str nm)), o] μ
  | 0, i, o, e, hi => by
    have := (List.getElem?_eq_some_iff.mp hf.1).1
    omega
  | q + 1, i, o, e, hi => by
    rw [List.range'_succ]
    refine ⟨hs, ?_⟩
    have g1 : c[i]? = some c[i] := List.getElem?_eq_getElem (by omega)
    have p1 : Pu (aIx (aVar 0) (aVar 2)) [some (.d (dCat c)), some (.d (.str nm)), some (.d (.int (i : Nat)))] μ (.d (dTb c[i])) := pu_ixD (d := dCat c) (l := c.map dTb) (pu_var rfl) (pu_var rfl) (.inr rfl) (by rw [List.getElem?_map, g1]; rfl)
    have p2 : Pu (aIx (aIx (aVar 0) (aVar 2)) (aC (.int 0))) [some (.d (dCat c)), some (.d (.str nm)), some (.d (.int (i : Nat)))] μ (.d (.str c[i].nm)) := pu_ixD (i := 0) (l := [.str c[i].nm, .int c[i].cols, .tuple (c[i].rows.map dL)]) p1 pu_c (.inr rfl) rfl
    refine i_if (put (pu_eqS (n := false) p2 (t := nm) (pu_var rfl))) (fun hk => ?_) (fun hk => ?_)
    · rw [neg_false] at hk
      have : ¬ i < i0 := fun z => hf.2.2 i c[i] z g1 (of_decide_eq_true hk)
      have e : i = i0 := by omega
      subst e
      exact i_ret (pu_var rfl) hZ
    · rw [neg_false] at hk
      have : i ≠ i0 := fun z => by
        subst z
        have h1 := hf.1
        rw [g1] at h1
        cases h1
        exact of_decide_eq_false hk hf.2.1
      exact place_loop hs hf hZ q (i + 1) _ (by omega) (by omega)
theorem h_place_of (cs : List Cl) (μ : Sto) (A : Cl → Sto → Prop) (er : Er) (h : r_place_of cs μ A er) : a_place_of (bodyD μ A er) (startE ns_place_of cs) μ := by
  obtain ⟨c, nm, i, t, rfl, hf, hl, h⟩ := h
  show a_place_of _ [some (.d (dCat c)), some (.d (.str nm)), none] μ
  have p0 := pu_lenD (pu_var (i := 0) (c := .d (dCat c)) (ρ := [some (.d (dCat c)), some (.d (.str nm)), none]) (μ := μ) rfl) (l := c.map dTb) (.inr rfl)
  rw [List.length_map] at p0
  refine i_sfor (i_rg1 p0 (by omega) ?_)
  rw [rgC0, List.range_eq_range']
  exact place_loop trivial hf (show finR μ A _ _ from .inl h) c.length 0 none (by omega) (by omega)
def r_table_at : RS := fun cs μ A _ => ∃ c nm i t, cs = [.d (dCat c), .d (.str nm)] ∧ FirstAt c nm i t ∧ c.length ≤ 100 ∧ A (.d (dTb t)) μ
theorem h_table_at (cs : List Cl) (μ : Sto) (A : Cl → Sto → Prop) (er : Er) (h : r_table_at cs μ A er) : a_table_at r_place_of (bodyD μ A er) (startE ns_table_at cs) μ := by
  obtain ⟨c, nm, i, t, rfl, hf, hl, h⟩ := h
  show a_table_at _ _ [some (.d (dCat c)), some (.d (.str nm)), none] μ
  refine i_sset (c := .d (.int (i : Nat))) (pu_call2 (c1 := .d (dCat c)) (c2 := .d (.str nm)) (pu_var rfl) (pu_var rfl) fun er Q q => ⟨c, nm, i, t, rfl, hf, hl, q⟩) ?_
  refine i_sifN (put (pu_lt (i := (i : Nat)) (pu_var rfl) (pu_c (d := .int 0)))) (fun hk => ?_) (fun hk => ?_)
  · have := of_decide_eq_true hk; omega
  · exact i_ret (pu_ixD (i := i) (d := dCat c) (l := c.map dTb) (pu_var rfl) (pu_var rfl) (.inr rfl) (by rw [List.getElem?_map, hf.1]; rfl)) (.inl h)
theorem table_loop {c0 : Cl} {nm : Str} {t0 : Tb} {μ : Sto} {st : Sto → Prop} {Z : AD} (hs : st μ) (hZ : Z.rt (.d (dTb t0)) μ) : ∀ (c : List Tb) (i0 : Nat) (o : Option Cl), FirstAt c nm i0 t0 →
    forL (gN 2) (sIf (aTest (aOp (fEq false) (aIx (aVar 2) (aC (.int 0))) (aVar 1))) (sRet (aVar 2)) sNext) st Z ((c.map dTb).map .d) [some c0, some (.d (.str nm)), o] μ
  | [], i0, o, hf => by have := hf.1; simp at this
  | t :: c, i0, o, hf => by
    refine ⟨hs, ?_⟩
    have p2 : Pu (aIx (aVar 2) (aC (.int 0))) [some c0, some (.d (.str nm)), some (.d (dTb t))] μ (.d (.str t.nm)) := pu_ixD (i := 0) (d := dTb t) (l := [.str t.nm, .int t.cols, .tuple (t.rows.map dL)]) (pu_var rfl) pu_c (.inr rfl) rfl
    refine i_if (put (pu_eqS (n := false) p2 (t := nm) (pu_var rfl))) (fun hk => ?_) (fun hk => ?_)
    · rw [neg_false] at hk
      have e : i0 = 0 := by
        cases i0 with
        | zero => rfl
        | succ i0 => exact absurd (of_decide_eq_true hk) (hf.2.2 0 t (by omega) rfl)
      subst e
      have h1 := hf.1
      simp at h1
      subst h1
      exact i_ret (pu_var rfl) hZ
    · rw [neg_false] at hk
      cases i0 with
      | zero =>
        have h1 := hf.1
        simp at h1
        subst h1
        exact absurd hf.2.1 (of_decide_eq_false hk)
      | succ i0 => exact table_loop hs hZ c i0 _ ⟨by have := hf.1; simpa using this, hf.2.1, fun k t' hk' ht' => hf.2.2 (k + 1) t' (by omega) (by simpa using ht')⟩
theorem h_L_table (cs : List Cl) (μ : Sto) (A : Cl → Sto → Prop) (er : Er) (h : r_table_at cs μ A er) : a_L_table (bodyD μ A er) (startE ns_L_table cs) μ := by
  obtain ⟨c, nm, i, t, rfl, hf, hl, h⟩ := h
  show a_L_table _ [some (.d (dCat c)), some (.d (.str nm)), none] μ
  refine i_sfor (i_seqD (d := dCat c) (l := c.map dTb) (pu_var rfl) (.inr rfl) ?_)
  exact table_loop trivial (show finR μ A _ _ from .inl h) c i none hf
end Jh

set_option Elab.async false
set_option linter.all false
set_option maxRecDepth 100000
set_option maxHeartbeats 4000000
namespace Jh
open PySem PySem.Spec PyProof.Rows L2
theorem i_g2N {i j : Nat} {d1 d2 : PyData} {ρ : En} {μ : Sto} {Q : En → Sto → Prop} (h : Q ((ρ.set i (some (.d d1))).set j (some (.d d2))) μ) : gTu 2 (gsCons (gN i) (gsCons (gN j) gsNil)) (.d (.tuple [d1, d2])) ρ μ Q := And.intro rfl h
theorem i_for {I : AI} {D : AD} {ρ : En} {μ : Sto} {g : AG} {s : ASt} (h : I D.er ρ μ fun xs st μ1 => forL g s st D xs ρ μ1) : sFor I g s D ρ μ := h
/-! ### the variables of a pattern -/
def addV (f : List Str) (v : Str) : List Str := if v ∈ f then f else f ++ [v]
def varsOf (as : List Atom) : List Str := as.foldl (fun f a => a.2.foldl addV f) []
abbrev sL (l : List Str) : List Cl := l.map fun s => .d (.str s)
theorem sL_D (l : List Str) : sL l = (l.map PyData.str).map .d := by rw [List.map_map]; rfl
theorem addV_len (f : List Str) (v : Str) : (addV f v).length ≤ f.length + 1 := by
  unfold addV
  split
  · omega
  · simp
theorem addVs_len : ∀ (l f : List Str), (l.foldl addV f).length ≤ f.length + l.length
  | [], f => Nat.le_refl _
  | v :: l, f => by
    have h1 := addVs_len l (addV f v)
    have h2 := addV_len f v
    rw [List.foldl_cons, List.length_cons]
    omega
def lenOf (as : List Atom) : Nat := as.foldr (fun a n => a.2.length + n) 0
theorem av_inner {c0 : Cl} {f : Nat} {μ0 : Sto} {o2 o3 : Option Cl} {st : Sto → Prop} {Z : AD} (hs : ∀ μ, st μ) : ∀ (l : List Str) (μ : Sto) (F : List Str) (o4 : Option Cl), F.length + l.length ≤ 900 → Fr f μ0 μ → μ[f]? = some (.lst (sL F)) →
    (∀ μ' o4, Fr f μ0 μ' → μ'[f]? = some (.lst (sL (l.foldl addV F))) → Z.nx [some c0, some (.m f), o2, o3, o4] μ') →
    forL (gN 4) (sIf (aTest (aOp (fIn true) (aVar 4) (aVar 1))) (sApp (aVar 1) (aVar 4)) sNext) st Z ((l.map PyData.str).map .d) [some c0, some (.m f), o2, o3, o4] μ
  | [], μ, F, o4, _, hfr, hF, hZ => ⟨hs μ, hZ μ o4 hfr hF⟩
  | v :: l, μ, F, o4, hl, hfr, hF, hZ => by
    simp only [List.length_cons] at hl
    refine ⟨hs μ, ?_⟩
    have p4 : Pu (aVar 4) [some c0, some (.m f), o2, o3, some (.d (.str v))] μ (.d (.str v)) := pu_var rfl
    have p1 : Pu (aVar 1) [some c0, some (.m f), o2, o3, some (.d (.str v))] μ (.m f) := pu_var rfl
    have pi := pu_in (n := true) (ds := F.map PyData.str) p4 p1 (cells_m hF) (by rw [sL_D, allD_map]) (Nat.le_of_ble_eq_true rfl)
    rw [inD_str, neg_true] at pi
    refine i_if (put pi) (fun hk => ?_) (fun hk => ?_)
    · have hv : ¬ v ∈ F := by simpa using hk
      have e : addV F v = F ++ [v] := if_neg hv
      refine i_appP p1 hF p4 (by rw [List.length_map]; omega) ?_
      refine av_inner hs l _ (F ++ [v]) _ (by simp; omega) (hfr.set (Nat.le_refl _)) (by rw [at_same hF]; simp) fun μ' o4 h1 h2 => hZ μ' o4 h1 ?_
      rw [h2, List.foldl_cons, e]
    · have hv : v ∈ F := by simpa using hk
      have e : addV F v = F := if_pos hv
      exact av_inner hs l μ F _ (by omega) hfr hF fun μ' o4 h1 h2 => hZ μ' o4 h1 (by rw [h2, List.foldl_cons, e])
theorem av_outer {c0 : Cl} {f : Nat} {μ0 : Sto} {st : Sto → Prop} {Z : AD} (hs : ∀ μ, st μ) : ∀ (as : List Atom) (μ : Sto) (F : List Str) (o2 o3 o4 : Option Cl), F.length + lenOf as ≤ 900 → Fr f μ0 μ → μ[f]? = some (.lst (sL F)) →
    (∀ μ' o2 o3 o4, Fr f μ0 μ' → μ'[f]? = some (.lst (sL (as.foldl (fun f a => a.2.foldl addV f) F))) → Z.nx [some c0, some (.m f), o2, o3, o4] μ') →
    forL (gTu 2 (gsCons (gN 2) (gsCons (gN 3) gsNil))) (sFor (aSeqI (aVar 3)) (gN 4) (sIf (aTest (aOp (fIn true) (aVar 4) (aVar 1))) (sApp (aVar 1) (aVar 4)) sNext)) st Z ((as.map dAtom).map .d) [some c0, some (.m f), o2, o3, o4] μ
  | [], μ, F, o2, o3, o4, _, hfr, hF, hZ => ⟨hs μ, hZ μ o2 o3 o4 hfr hF⟩
  | a :: as, μ, F, o2, o3, o4, hl, hfr, hF, hZ => by
    refine ⟨hs μ, i_g2N (i_for ?_)⟩
    have hl' : F.length + (a.2.length + lenOf as) ≤ 900 := hl
    refine i_seqD (d := dS a.2) (l := a.2.map PyData.str) (ρ := [some c0, some (.m f), some (.d (.str a.1)), some (.d (dS a.2)), o4]) (pu_var (i := 3) rfl) (.inr rfl) ?_
    refine av_inner (μ0 := μ0) (fun _ => trivial) a.2 μ F o4 (by omega) hfr hF fun μ' o4' h1 h2 => ?_
    refine av_outer hs as μ' (a.2.foldl addV F) _ _ _ ?_ h1 h2 fun μ'' o2 o3 o4 h3 h4 => hZ μ'' o2 o3 o4 h3 (by rw [h4]; rfl)
    have := addVs_len a.2 F
    omega
def r_all_variables : RS := fun cs μ A _ => ∃ hd as, cs = [.d (dPat hd as)] ∧ lenOf as ≤ 900 ∧ A (.d (dS (varsOf as))) μ
theorem h_all_variables (cs : List Cl) (μ : Sto) (A : Cl → Sto → Prop) (er : Er) (h : r_all_variables cs μ A er) : a_all_variables (bodyD μ A er) (startE ns_all_variables cs) μ := by
  obtain ⟨hd, as, rfl, hl, h⟩ := h
  show a_all_variables _ [some (.d (dPat hd as)), none, none, none, none] μ
  refine i_sasgN (a := aOwn (aLst aNil)) (And.intro (Nat.le_of_ble_eq_true rfl) ?_)
  have p1 : Pu (aIx (aVar 0) (aC (.int 1))) [some (.d (dPat hd as)), some (.m μ.length), none, none, none] (μ ++ [.lst []]) (.d (.tuple (as.map dAtom))) := pu_ixD (i := 1) (d := dPat hd as) (l := [dS hd, .tuple (as.map dAtom)]) (pu_var rfl) pu_c (.inr rfl) rfl
  refine i_sfor (i_seqD p1 (.inr rfl) ?_)
  refine av_outer (μ0 := μ) (fun _ => trivial) as _ [] none none none (by simpa using hl) ((Fr.refl (Nat.le_refl _)).app) at_new fun μ' o2 o3 o4 hfr hF => ?_
  exact i_ret (D := bodyD μ A er) (ρ := [some (.d (dPat hd as)), some (.m μ.length), o2, o3, o4]) (pu_tupC (pu_var (i := 1) rfl) (cells_m hF) (sL_D _)) (fin_fr hfr h)
/-! ### _law_variables: the same -/
def newV (F l : List Str) : List Str := ((List.range l.length).filter fun k => !decide (l.getD k "" ∈ F) && !decide (l.getD k "" ∈ l.take k)).map fun k => l.getD k ""
theorem mem_addVs : ∀ (l F : List Str) (x : Str), x ∈ l.foldl addV F ↔ x ∈ F ∨ x ∈ l
  | [], F, x => by simp
  | v :: l, F, x => by
    rw [List.foldl_cons, mem_addVs l, List.mem_cons]
    unfold addV
    split
    · rename_i h
      constructor
      · rintro (h1 | h1)
        · exact .inl h1
        · exact .inr (.inr h1)
      · rintro (h1 | rfl | h1)
        · exact .inl h1
        · exact .inl h
        · exact .inr h1
    · rw [List.mem_append, List.mem_singleton, or_assoc]
theorem newV_snoc (F l : List Str) (v : Str) : newV F (l ++ [v]) = newV F l ++ if v ∈ F ∨ v ∈ l then [] else [v] := by
  unfold newV
  rw [List.length_append, List.length_singleton, List.range_succ, List.filter_append, List.map_append]
  have g1 : ∀ k, k < l.length → (l ++ [v]).getD k "" = l.getD k "" := fun k hk => by
    rw [List.getD_eq_getElem?_getD, List.getElem?_append_left hk, ← List.getD_eq_getElem?_getD]
  have g2 : ∀ k, k < l.length → (l ++ [v]).take k = l.take k := fun k hk => List.take_append_of_le_length (by omega)
  have g3 : (l ++ [v]).getD l.length "" = v := by simp
  have g4 : (l ++ [v]).take l.length = l := by simp
  congr 1
  · have e : (List.range l.length).filter (fun k => !decide ((l ++ [v]).getD k "" ∈ F) && !decide ((l ++ [v]).getD k "" ∈ (l ++ [v]).take k)) = (List.range l.length).filter (fun k => !decide (l.getD k "" ∈ F) && !decide (l.getD k "" ∈ l.take k)) :=
      List.filter_congr fun k hk => by
        have hk := List.mem_range.mp hk
        rw [g1 k hk, g2 k hk]
    rw [e]
    exact List.map_congr_left fun k hk => g1 k (List.mem_range.mp (List.mem_filter.mp hk).1)
  · simp only [List.filter_cons, List.filter_nil, g3, g4]
    by_cases h1 : v ∈ F
    · simp [h1]
    · by_cases h2 : v ∈ l
      · simp [h1, h2]
      · simp [h1, h2]
theorem snoc_cases {α : Type} (l : List α) : l = [] ∨ ∃ l' x, l = l' ++ [x] := by
  rcases List.eq_nil_or_concat l with h | ⟨l', x, h⟩
  · exact .inl h
  · exact .inr ⟨l', x, by rw [h]; simp⟩
theorem addVs_new (F : List Str) : ∀ (n : Nat) (l : List Str), l.length = n → l.foldl addV F = F ++ newV F l
  | 0, l, h => by
    have : l = [] := List.eq_nil_of_length_eq_zero h
    subst this
    simp [newV]
  | n + 1, l, h => by
    rcases snoc_cases l with rfl | ⟨l', x, rfl⟩
    · simp at h
    · rw [List.foldl_append, List.foldl_cons, List.foldl_nil, addVs_new F n l' (by simpa using h), newV_snoc, ← List.append_assoc]
      have m := mem_addVs l' F x
      rw [addVs_new F n l' (by simpa using h)] at m
      unfold addV
      by_cases h1 : x ∈ F ∨ x ∈ l'
      · rw [if_pos (m.mpr h1), if_pos h1, List.append_nil]
      · rw [if_neg (fun z => h1 (m.mp z)), if_neg h1]
theorem newV_len (F l : List Str) : (newV F l).length ≤ l.length := by
  unfold newV
  rw [List.length_map]
  exact Nat.le_trans (List.length_filter_le _ _) (by simp)
section
variable {a b e : AX} {ρ : En} {μ : Sto} {c x y : Cl} {D : AD}
theorem cutA_take {α : Type} (l : List α) (k : Nat) : cutA l none (some (k : Int)) = l.take k := by
  unfold cutA
  rw [HT.sIx_none, HT.sIx_nat, List.drop_zero, Nat.sub_zero]
  by_cases h : k ≤ l.length
  · rw [Nat.min_eq_left h]
  · rw [Nat.min_eq_right (by omega), List.take_length, List.take_of_length_le (by omega)]
theorem cutA_drop {α : Type} (l : List α) (k : Nat) : cutA l (some (k : Int)) none = l.drop k := by
  unfold cutA
  rw [HT.sIx_none, HT.sIx_nat]
  by_cases h : k ≤ l.length
  · rw [Nat.min_eq_left h, List.take_of_length_le (by rw [List.length_drop]; omega)]
  · rw [Nat.min_eq_right (by omega), List.drop_length, List.drop_eq_nil_of_le (by omega)]; simp
theorem pu_slTo {ds : List PyData} {k : Nat} (ha : Pu a ρ μ (.d (.tuple ds))) (hb : Pu b ρ μ (.d (.int (k : Nat)))) : Pu (aSlT a aNoP (aSomeP b)) ρ μ (.d (.tuple (ds.take k))) := fun er Q q => ha er _ (hb er _ (by
  show Q (.d (.tuple (cutA ds none (some (k : Int))))) μ
  rw [cutA_take]; exact q))
theorem pu_slFrom {ds : List PyData} {k : Nat} (ha : Pu a ρ μ (.d (.tuple ds))) (hb : Pu b ρ μ (.d (.int (k : Nat)))) : Pu (aSlT a (aSomeP b) aNoP) ρ μ (.d (.tuple (ds.drop k))) := fun er Q q => ha er _ (hb er _ (by
  show Q (.d (.tuple (cutA ds (some (k : Int)) none))) μ
  rw [cutA_drop]; exact q))
end
abbrev lvElt : AX := aIx (aVar 3) (aVar 4)
abbrev lvBody : ASt := sAsg (aFrz (aCat (aVar 1) (aFrz (aLc 4 [4] (aRg1 (aCons (aCB fLen (aCons (aVar 3) aNil)) aNil)) (aAnd (aTest (aOp (fIn true) lvElt (aVar 1))) (aTest (aOp (fIn true) lvElt (aSlT (aVar 3) aNoP (aSomeP (aVar 4)))))) lvElt)))) (gN 1)
theorem lv_loop {c0 : Cl} {μ : Sto} {st : Sto → Prop} {Z : AD} (hs : st μ) : ∀ (as : List Atom) (F : List Str) (o2 o3 : Option Cl), F.length + lenOf as ≤ 900 →
    (∀ o2 o3, Z.nx [some c0, some (.d (.list ((as.foldl (fun f a => a.2.foldl addV f) F).map .str))), o2, o3, none] μ) →
    forL (gTu 2 (gsCons (gN 2) (gsCons (gN 3) gsNil))) lvBody st Z ((as.map dAtom).map .d) [some c0, some (.d (.list (F.map .str))), o2, o3, none] μ
  | [], F, o2, o3, _, hZ => ⟨hs, hZ o2 o3⟩
  | a :: as, F, o2, o3, hl, hZ => by
    have hl' : F.length + (a.2.length + lenOf as) ≤ 900 := hl
    refine ⟨hs, i_g2N (i_set (c := .d (.list ((a.2.foldl addV F).map .str))) ?_ ?_)⟩
    · have p3 : Pu (aVar 3) [some c0, some (.d (.list (F.map PyData.str))), some (.d (.str a.1)), some (.d (dS a.2)), none] μ (.d (dS a.2)) := pu_var rfl
      refine pu_cat (x := .d (.list (F.map .str))) (y := .d (.list ((newV F a.2).map .str))) (pu_var rfl) ?_ rfl rfl (by have := newV_len F a.2; simp; omega) (by rw [addVs_new F _ a.2 rfl]; simp)
      refine pu_lc (cs := ((newV F a.2).map PyData.str).map .d) (fun er Q q => i_rg1 (n := a.2.length) (by have := pu_lenD p3 (l := a.2.map PyData.str) (.inr rfl); rwa [List.length_map] at this) (by omega) q) (fun Q q => ?_) rfl
      refine lcL_rg (fun k => !decide (a.2.getD k "" ∈ F) && !decide (a.2.getD k "" ∈ a.2.take k)) (fun k => .d (.str (a.2.getD k ""))) trivial (by omega) (fun i hi => ?_) (fun i hi _ => ?_) ?_
      all_goals first | skip
      · have g : a.2[i]? = some (a.2.getD i "") := by rw [List.getD_eq_getElem?_getD, List.getElem?_eq_getElem hi]; rfl
        have q3 : Pu (aVar 3) [some c0, some (.d (.list (F.map PyData.str))), some (.d (.str a.1)), some (.d (dS a.2)), some (.d (.int (i : Nat)))] μ (.d (dS a.2)) := pu_var rfl
        have q4 : Pu (aVar 4) [some c0, some (.d (.list (F.map PyData.str))), some (.d (.str a.1)), some (.d (dS a.2)), some (.d (.int (i : Nat)))] μ (.d (.int (i : Nat))) := pu_var rfl
        have q1 : Pu (aVar 1) [some c0, some (.d (.list (F.map PyData.str))), some (.d (.str a.1)), some (.d (dS a.2)), some (.d (.int (i : Nat)))] μ (.d (.list (F.map PyData.str))) := pu_var rfl
        have e1 : Pu lvElt [some c0, some (.d (.list (F.map PyData.str))), some (.d (.str a.1)), some (.d (dS a.2)), some (.d (.int (i : Nat)))] μ (.d (.str (a.2.getD i ""))) := pu_ixD q3 q4 (l := a.2.map PyData.str) (.inr rfl) (by rw [List.getElem?_map, g]; rfl)
        have t1 := pu_inD (n := true) e1 q1 (l := F.map PyData.str) (.inl rfl) (Nat.le_of_ble_eq_true rfl)
        rw [inD_str, neg_true] at t1
        have t2 := pu_inD (n := true) e1 (pu_slTo q3 q4) (l := (a.2.map PyData.str).take i) (.inr rfl) (Nat.le_of_ble_eq_true rfl)
        rw [← List.map_take, inD_str, neg_true] at t2
        exact put_and (put t1) fun _ => put t2
      · have g : a.2[i]? = some (a.2.getD i "") := by rw [List.getD_eq_getElem?_getD, List.getElem?_eq_getElem hi]; rfl
        exact pu_ixD (d := dS a.2) (i := i) (pu_var rfl) (pu_var rfl) (l := a.2.map PyData.str) (.inr rfl) (by rw [List.getElem?_map, g]; rfl)
      · have e : (((List.range a.2.length).filter fun k => !decide (a.2.getD k "" ∈ F) && !decide (a.2.getD k "" ∈ a.2.take k)).map fun k => Cl.d (.str (a.2.getD k ""))) = ((newV F a.2).map PyData.str).map .d := by
          unfold newV; rw [List.map_map, List.map_map]; rfl
        rw [e]; exact q
    · refine lv_loop hs as (a.2.foldl addV F) _ _ ?_ hZ
      have := addVs_len a.2 F
      omega
theorem h_L_variables (cs : List Cl) (μ : Sto) (A : Cl → Sto → Prop) (er : Er) (h : r_all_variables cs μ A er) : a_L_variables (bodyD μ A er) (startE ns_L_variables cs) μ := by
  obtain ⟨hd, as, rfl, hl, h⟩ := h
  show a_L_variables _ [some (.d (dPat hd as)), none, none, none, none] μ
  refine i_sasgN (a := aFrz (aLst aNil)) (And.intro (Nat.le_of_ble_eq_true rfl) ?_)
  have p1 : Pu (aIx (aVar 0) (aC (.int 1))) [some (.d (dPat hd as)), some (.d (.list [])), none, none, none] μ (.d (.tuple (as.map dAtom))) := pu_ixD (i := 1) (d := dPat hd as) (l := [dS hd, .tuple (as.map dAtom)]) (pu_var rfl) pu_c (.inr rfl) rfl
  refine i_sfor (i_seqD p1 (.inr rfl) ?_)
  refine lv_loop trivial as [] none none (by simpa using hl) fun o2 o3 => ?_
  exact i_ret (D := bodyD μ A er) (ρ := [some (.d (dPat hd as)), some (.d (.list ((varsOf as).map .str))), o2, o3, none]) (pu_tupC (pu_var (i := 1) rfl) rfl rfl) (.inl h)
end Jh

set_option Elab.async false
set_option linter.all false
set_option maxRecDepth 100000
set_option maxHeartbeats 4000000
namespace Jh
open PySem PySem.Spec PyProof.Rows L2
/-! ### a dict -/
theorem find_map_ne {k k' : Key} {c : Cl} (h : ¬ k' = k) : ∀ (kcs : List (Key × Cl)), valC (kcs.map fun kv => if kv.1 = k then (kv.1, c) else kv) k' = valC kcs k'
  | [] => rfl
  | kv :: kcs => by
    have ih := find_map_ne (c := c) h kcs
    unfold valC at ih ⊢
    rw [List.map_cons, List.find?_cons, List.find?_cons]
    by_cases e : kv.1 = k
    · rw [if_pos e]
      have e2 : ¬ kv.1 = k' := fun z => h (z.symm.trans e)
      simp only [decide_eq_false e2]
      exact ih
    · rw [if_neg e]
      by_cases e2 : kv.1 = k'
      · simp only [decide_eq_true e2]
      · simp only [decide_eq_false e2]
        exact ih
theorem find_map_eq {k : Key} {c : Cl} : ∀ (kcs : List (Key × Cl)), (kcs.any fun kv => decide (kv.1 = k)) = true → valC (kcs.map fun kv => if kv.1 = k then (kv.1, c) else kv) k = some c
  | [], h => by cases h
  | kv :: kcs, h => by
    unfold valC
    rw [List.map_cons, List.find?_cons]
    by_cases e : kv.1 = k
    · rw [if_pos e]
      simp only [decide_eq_true e]
      rfl
    · rw [if_neg e]
      simp only [decide_eq_false e]
      rw [List.any_cons, decide_eq_false e, Bool.false_or] at h
      exact find_map_eq kcs h
theorem valC_put (kcs : List (Key × Cl)) (k k' : Key) (c : Cl) : valC (putD kcs k c) k' = if k' = k then some c else valC kcs k' := by
  unfold putD
  split
  · rename_i h
    by_cases e : k' = k
    · subst e; rw [if_pos rfl]; exact find_map_eq kcs h
    · rw [if_neg e]; exact find_map_ne e kcs
  · rename_i h
    have h' : (kcs.any fun kv => decide (kv.1 = k)) = false := by
      cases z : (kcs.any fun kv => decide (kv.1 = k)) with
      | false => rfl
      | true => exact absurd z h
    unfold valC
    rw [List.find?_append]
    by_cases e : k' = k
    · subst e
      rw [if_pos rfl]
      have : kcs.find? (fun kv => decide (kv.1 = k')) = none := by
        rw [List.find?_eq_none]
        intro x hx hh
        rw [List.any_eq_false] at h'
        exact h' x hx hh
      rw [this]
      simp
    · rw [if_neg e]
      have : [(k, c)].find? (fun kv => decide (kv.1 = k')) = none := by
        rw [List.find?_cons]
        simp only [decide_eq_false (fun z => e (Eq.symm z))]
        rfl
      rw [this, Option.or_none]
theorem putD_len (kcs : List (Key × Cl)) (k : Key) (c : Cl) : (putD kcs k c).length ≤ kcs.length + 1 := by
  unfold putD
  split
  · rw [List.length_map]; omega
  · simp
/-! ### right_atoms -/
structure GoodAtoms (as : List Atom) : Prop where
  nm : ∀ a ∈ as, GoodName a.1
  l1 : ∀ a ∈ as, 1 ≤ a.2.length
  l4 : ∀ a ∈ as, a.2.length ≤ 4
  vs : ∀ a ∈ as, ∀ v ∈ a.2, GoodName v
  same : ∀ a ∈ as, ∀ b ∈ as, a.1 = b.1 → a.2.length = b.2.length
  n1 : 1 ≤ as.length
  n8 : as.length ≤ 8
def r_right_atoms : RS := fun cs μ A _ => ∃ as : List Atom, cs = [.d (.tuple (as.map dAtom))] ∧ GoodAtoms as ∧ A (.d (.bool true)) μ
def KOk (all : List Atom) (kcs : List (Key × Cl)) : Prop := ∀ a ∈ all, valC kcs (.inr a.1) = none ∨ valC kcs (.inr a.1) = some (.d (.int (a.2.length : Nat)))
section
variable {a b e : AX} {ρ : En} {μ : Sto} {c x y : Cl} {D : AD} {s u : ASt} {f : Nat}
theorem pu_get2 {kcs : List (Key × Cl)} {k : Str} {n : Nat} (ha : Pu a ρ μ (.m f)) (h : μ[f]? = some (.dct kcs)) (hb : Pu b ρ μ (.d (.str k))) (he : Pu e ρ μ c) (hv : (valC kcs (.inr k)).getD c = c) : Pu (aDGet2 a b e) ρ μ c := fun er Q q => ha _ _ (by
  show match μ[f]? with | some (.dct _) => b er ρ μ (fun y μ2 => e er ρ μ2 fun z μ3 => (match y, μ3[f]? with | .d (.str s), some (.dct kcs) => Q ((valC kcs (.inr s)).getD z) μ3 | _, _ => False)) | _ => False
  rw [h]
  refine hb _ _ (he _ _ ?_)
  show match Cl.d (.str k), μ[f]? with | .d (.str s), some (.dct kcs) => Q ((valC kcs (.inr s)).getD c) μ | _, _ => False
  rw [h]
  show Q ((valC kcs (.inr k)).getD c) μ
  rw [hv]; exact q)
theorem i_dput {kcs : List (Key × Cl)} {k : Str} (he : Pu e ρ μ c) (ha : Pu a ρ μ (.m f)) (hb : Pu b ρ μ (.d (.str k))) (h : μ[f]? = some (.dct kcs)) (hl : kcs.length < 1000) (q : D.nx ρ (μ.set f (.dct (putD kcs (.inr k) c)))) : sDPutA a b e D ρ μ := he _ _ (ha _ _ (hb _ _ (by
  show match μ[f]? with | some (.dct kcs) => kcs.length < 1000 ∧ D.nx ρ (μ.set f (.dct (putD kcs (.inr k) c))) | _ => False
  rw [h]; exact ⟨hl, q⟩)))
end
abbrev raBody : ASt := (sSeq (sIf (aOr (aNot (aTest (aCall r_is_name (aCons (aVar 2) aNil)))) (aNot (aTest (aChain (fI pLe) (fI pLe) (aC (.int 1)) (aCB fLen (aCons (aVar 3) aNil)) (aC (.int (4))))))) (sRet (aC (.bool false))) sNext)
    (sSeq (sIf (aNot (aTest (aCB fAll (aCons (aFrz (aLc 4 [4] (aSeqI (aVar 3)) aYes (aCall r_is_name (aCons (aVar 4) aNil)))) aNil)))) (sRet (aC (.bool false))) sNext)
    (sSeq (sIf (aTest (aOp (fEq true) (aDGet2 (aVar 1) (aVar 2) (aCB fLen (aCons (aVar 3) aNil))) (aCB fLen (aCons (aVar 3) aNil)))) (sRet (aC (.bool false))) sNext)
    (sDPutA (aVar 1) (aVar 2) (aCB fLen (aCons (aVar 3) aNil))))))
theorem ra_loop {c0 : Cl} {f : Nat} {μ0 : Sto} {st : Sto → Prop} {Z : AD} {all : List Atom} (G : GoodAtoms all) (hs : ∀ μ, st μ) : ∀ (as : List Atom) (μ : Sto) (kcs : List (Key × Cl)) (o2 o3 : Option Cl), (∀ a ∈ as, a ∈ all) → KOk all kcs → kcs.length + as.length ≤ 900 → Fr f μ0 μ → μ[f]? = some (.dct kcs) →
    (∀ μ' o2 o3, Fr f μ0 μ' → Z.nx [some c0, some (.m f), o2, o3, none] μ') →
    forL (gTu 2 (gsCons (gN 2) (gsCons (gN 3) gsNil))) raBody st Z ((as.map dAtom).map .d) [some c0, some (.m f), o2, o3, none] μ
  | [], μ, kcs, o2, o3, _, _, _, hfr, _, hZ => ⟨hs μ, hZ μ o2 o3 hfr⟩
  | a :: as, μ, kcs, o2, o3, hin, hk, hl, hfr, hF, hZ => by
    have ha := hin a List.mem_cons_self
    refine ⟨hs μ, i_g2N ?_⟩
    have p1 : Pu (aVar 1) [some c0, some (.m f), some (.d (.str a.1)), some (.d (dS a.2)), none] μ (.m f) := pu_var rfl
    have p2 : Pu (aVar 2) [some c0, some (.m f), some (.d (.str a.1)), some (.d (dS a.2)), none] μ (.d (.str a.1)) := pu_var rfl
    have p3 : Pu (aVar 3) [some c0, some (.m f), some (.d (.str a.1)), some (.d (dS a.2)), none] μ (.d (dS a.2)) := pu_var rfl
    have pl := pu_lenD p3 (l := a.2.map PyData.str) (.inr rfl)
    rw [List.length_map] at pl
    have l1 := G.l1 a ha
    have l4 := G.l4 a ha
    refine i_sifN (put_or (put_not (put (pu_call1 (R := r_is_name) (c := .d (.bool true)) p2 fun er Q q => ⟨a.1, rfl, G.nm a ha, q⟩))) fun _ => put_not (put (pu_chain (p := pLe) (q' := pLe) (pu_c (d := .int 1)) pl (pu_c (d := .int 4))))) (fun hk => ?_) (fun _ => ?_)
    · have e1 : pLe 1 (a.2.length : Nat) = true := by unfold pLe; exact decide_eq_true (by omega)
      have e2 : pLe (a.2.length : Nat) 4 = true := by unfold pLe; exact decide_eq_true (by omega)
      rw [e1, e2] at hk
      cases hk
    have pn : Pu (aFrz (aLc 4 [4] (aSeqI (aVar 3)) aYes (aCall r_is_name (aCons (aVar 4) aNil)))) [some c0, some (.m f), some (.d (.str a.1)), some (.d (dS a.2)), none] μ (.d (.list (a.2.map fun _ => .bool true))) :=
      pu_lcD (g := fun v => .d (.str v)) (st := fun _ => True) (fun er Q q => i_seqD p3 (l := a.2.map PyData.str) (.inr rfl) (by rw [List.map_map]; exact q)) trivial (fun v hv => pu_call1 (c1 := .d (.str v)) (pu_var rfl) fun er Q q => ⟨v, rfl, G.vs a ha v hv, q⟩) (by omega)
    refine i_sifN (put_not (put (pu_all (g := fun _ => true) pn))) (fun hk => ?_) (fun _ => ?_)
    · have e : a.2.all (fun _ => true) = true := List.all_eq_true.mpr fun _ _ => rfl
      rw [e] at hk
      cases hk
    have hv : (valC kcs (.inr a.1)).getD (.d (.int (a.2.length : Nat))) = .d (.int (a.2.length : Nat)) := by
      rcases hk a ha with h | h <;> rw [h] <;> rfl
    refine i_sifN (put (pu_eqI (n := true) (pu_get2 (n := 0) p1 hF p2 pl hv) pl)) (fun hk => ?_) (fun _ => ?_)
    · rw [decide_eq_true rfl] at hk
      cases hk
    simp only [List.length_cons] at hl
    refine i_dput pl p1 p2 hF (by omega) ?_
    refine ra_loop G hs as _ (putD kcs (.inr a.1) (.d (.int (a.2.length : Nat)))) _ _ (fun b hb => hin b (List.mem_cons_of_mem _ hb)) (fun b hb => ?_) (by have := putD_len kcs (.inr a.1) (.d (.int (a.2.length : Nat))); omega) (hfr.set (Nat.le_refl _)) (at_same hF) hZ
    rw [valC_put]
    by_cases e : (Sum.inr b.1 : Key) = .inr a.1
    · rw [if_pos e]
      have e2 : b.1 = a.1 := Sum.inr.inj e
      rw [G.same b hb a ha e2]
      exact .inr rfl
    · rw [if_neg e]; exact hk b hb
theorem h_right_atoms (cs : List Cl) (μ : Sto) (A : Cl → Sto → Prop) (er : Er) (h : r_right_atoms cs μ A er) : a_right_atoms r_is_name (bodyD μ A er) (startE ns_right_atoms cs) μ := by
  obtain ⟨as, rfl, G, h⟩ := h
  show a_right_atoms _ _ [some (.d (.tuple (as.map dAtom))), none, none, none, none] μ
  refine i_sasgN (a := aDNew) ?_
  show sSeq _ _ _ [some (.d (.tuple (as.map dAtom))), some (.m μ.length), none, none, none] (μ ++ [.dct []])
  refine i_sfor (i_seqD (d := .tuple (as.map dAtom)) (l := as.map dAtom) (pu_var rfl) (.inr rfl) ?_)
  refine ra_loop (μ0 := μ) G (fun _ => trivial) as _ [] none none (fun _ h => h) (fun _ _ => .inl rfl) (by have := G.n8; simp; omega) ((Fr.refl (Nat.le_refl _)).app) at_new fun μ' o2 o3 hfr => ?_
  have pl := pu_lenD (pu_var (i := 0) (c := .d (.tuple (as.map dAtom))) (ρ := [some (.d (.tuple (as.map dAtom))), some (.m μ.length), o2, o3, none]) (μ := μ') rfl) (l := as.map dAtom) (.inr rfl)
  rw [List.length_map] at pl
  refine i_ret (D := bodyD μ A er) (pu_I (p := pGt) pl (pu_c (d := .int 0))) ?_
  have e : pGt (as.length : Nat) 0 = true := by have := G.n1; unfold pGt; exact decide_eq_true (by omega)
  rw [e]
  exact fin_fr hfr h
/-! ### check_pattern, check_fit -/
structure GoodPat (hd : List Str) (as : List Atom) : Prop where
  at_ : GoodAtoms as
  hv : ∀ v ∈ hd, v ∈ varsOf as
  nd : ∀ k, k < hd.length → ¬ hd.getD k "" ∈ hd.take k
  vl : (varsOf as).length ≤ 8
  hl : hd.length ≤ 100
theorem lenOf_le : ∀ (as : List Atom), (∀ a ∈ as, a.2.length ≤ 4) → lenOf as ≤ 4 * as.length
  | [], _ => Nat.le_refl _
  | a :: as, h => by
    have h1 := h a List.mem_cons_self
    have h2 := lenOf_le as fun b hb => h b (List.mem_cons_of_mem _ hb)
    show a.2.length + lenOf as ≤ _
    rw [List.length_cons]; omega
theorem GoodPat.len {hd : List Str} {as : List Atom} (g : GoodPat hd as) : lenOf as ≤ 900 := by
  have := lenOf_le as g.at_.l4
  have := g.at_.n8
  omega
def r_check_pattern : RS := fun cs μ A _ => ∃ hd as, cs = [.d (dPat hd as)] ∧ GoodPat hd as ∧ A (.d .none) μ
theorem h_check_pattern (cs : List Cl) (μ : Sto) (A : Cl → Sto → Prop) (er : Er) (h : r_check_pattern cs μ A er) : a_check_pattern r_all_variables r_right_atoms (bodyD μ A er) (startE ns_check_pattern cs) μ := by
  obtain ⟨hd, as, rfl, g, h⟩ := h
  show a_check_pattern _ _ _ [some (.d (dPat hd as)), none, none, none, none, none, none] μ
  refine i_sg2 (pu_var rfl) ?_
  refine i_sset (c := .d (dS (varsOf as))) (pu_call1 (c1 := .d (dPat hd as)) (pu_var rfl) fun er Q q => ⟨hd, as, rfl, g.len, q⟩) ?_
  have hl := g.hl
  have p1 : Pu (aVar 1) [some (.d (dPat hd as)), some (.d (dS hd)), some (.d (.tuple (as.map dAtom))), some (.d (dS (varsOf as))), none, none, none] μ (.d (dS hd)) := pu_var rfl
  have pc : Pu (aFrz (aLc 5 [5] (aSeqI (aVar 1)) aYes (aOp (fIn false) (aVar 5) (aVar 3)))) [some (.d (dPat hd as)), some (.d (dS hd)), some (.d (.tuple (as.map dAtom))), some (.d (dS (varsOf as))), none, none, none] μ (.d (.list (hd.map fun v => .bool (decide (v ∈ varsOf as))))) :=
    pu_lcD (g := fun v => .d (.str v)) (st := fun _ => True) (fun er Q q => i_seqD p1 (l := hd.map PyData.str) (.inr rfl) (by rw [List.map_map]; exact q)) trivial (fun v hv => by
      have := pu_inD (n := false) (d := .str v) (d' := dS (varsOf as)) (ρ := [some (.d (dPat hd as)), some (.d (dS hd)), some (.d (.tuple (as.map dAtom))), some (.d (dS (varsOf as))), none, some (.d (.str v)), none]) (μ := μ) (pu_var (i := 5) rfl) (pu_var (i := 3) rfl) (l := (varsOf as).map PyData.str) (.inr rfl) (Nat.le_of_ble_eq_true rfl)
      rwa [inD_str, neg_false] at this) (by omega)
  refine i_sset (c := .d (.bool true)) ?_ ?_
  · have := pu_and (k := true) (pu_call1 (R := r_right_atoms) (c1 := .d (.tuple (as.map dAtom))) (c := .d (.bool true)) (ρ := [some (.d (dPat hd as)), some (.d (dS hd)), some (.d (.tuple (as.map dAtom))), some (.d (dS (varsOf as))), none, none, none]) (μ := μ) (pu_var (i := 2) rfl) fun er Q q => ⟨as, rfl, g.at_, q⟩) fun _ => pu_all pc
    have e : hd.all (fun v => decide (v ∈ varsOf as)) = true := List.all_eq_true.mpr fun v hv => decide_eq_true (g.hv v hv)
    rw [e] at this
    exact this
  have q1 : Pu (aVar 1) [some (.d (dPat hd as)), some (.d (dS hd)), some (.d (.tuple (as.map dAtom))), some (.d (dS (varsOf as))), some (.d (.bool true)), none, none] μ (.d (dS hd)) := pu_var rfl
  have ql := pu_lenD q1 (l := hd.map PyData.str) (.inr rfl)
  rw [List.length_map] at ql
  have pd : Pu (aFrz (aLc 6 [6] (aRg1 (aCons (aCB fLen (aCons (aVar 1) aNil)) aNil)) aYes (aOp (fIn false) (aIx (aVar 1) (aVar 6)) (aSlT (aVar 1) aNoP (aSomeP (aVar 6)))))) [some (.d (dPat hd as)), some (.d (dS hd)), some (.d (.tuple (as.map dAtom))), some (.d (dS (varsOf as))), some (.d (.bool true)), none, none] μ (.d (.list ((List.range hd.length).map fun k => .bool (decide (hd.getD k "" ∈ hd.take k))))) :=
    pu_lcD (g := fun k => .d (.int (k : Nat))) (st := fun _ => True) (fun er Q q => i_rg1 ql (by omega) (by rw [rgC0]; exact q)) trivial (fun k hk => by
      have hk := List.mem_range.mp hk
      have gk : hd[k]? = some (hd.getD k "") := by rw [List.getD_eq_getElem?_getD, List.getElem?_eq_getElem hk]; rfl
      have r1 : Pu (aVar 1) [some (.d (dPat hd as)), some (.d (dS hd)), some (.d (.tuple (as.map dAtom))), some (.d (dS (varsOf as))), some (.d (.bool true)), none, some (.d (.int (k : Nat)))] μ (.d (dS hd)) := pu_var rfl
      have r6 : Pu (aVar 6) [some (.d (dPat hd as)), some (.d (dS hd)), some (.d (.tuple (as.map dAtom))), some (.d (dS (varsOf as))), some (.d (.bool true)), none, some (.d (.int (k : Nat)))] μ (.d (.int (k : Nat))) := pu_var rfl
      have := pu_inD (n := false) (pu_ixD r1 r6 (l := hd.map PyData.str) (d' := .str (hd.getD k "")) (.inr rfl) (by rw [List.getElem?_map, gk]; rfl)) (pu_slTo r1 r6) (l := (hd.map PyData.str).take k) (.inr rfl) (Nat.le_of_ble_eq_true rfl)
      rwa [← List.map_take, inD_str, neg_false] at this) (by simp; omega)
  refine i_sifN (put_or (put_not (put (k := true) (pu_var rfl))) fun _ => put (pu_any pd)) (fun hk => ?_) (fun _ => ?_)
  · have e : (List.range hd.length).any (fun k => decide (hd.getD k "" ∈ hd.take k)) = false := by
      rw [List.any_eq_false]
      intro k hk
      have := g.nd k (List.mem_range.mp hk)
      simpa using this
    rw [e] at hk
    cases hk
  have q2 : Pu (aVar 2) [some (.d (dPat hd as)), some (.d (dS hd)), some (.d (.tuple (as.map dAtom))), some (.d (dS (varsOf as))), some (.d (.bool true)), none, none] μ (.d (.tuple (as.map dAtom))) := pu_var rfl
  have q3 : Pu (aVar 3) [some (.d (dPat hd as)), some (.d (dS hd)), some (.d (.tuple (as.map dAtom))), some (.d (dS (varsOf as))), some (.d (.bool true)), none, none] μ (.d (dS (varsOf as))) := pu_var rfl
  have l2 := pu_lenD q2 (l := as.map dAtom) (.inr rfl)
  have l3 := pu_lenD q3 (l := (varsOf as).map PyData.str) (.inr rfl)
  rw [List.length_map] at l2 l3
  refine i_if (put_or (put (pu_I (p := pGt) l2 (pu_c (d := .int 8)))) fun _ => put (pu_I (p := pGt) l3 (pu_c (d := .int 8)))) (fun hk => ?_) (fun _ => .inl h)
  have n8 := g.at_.n8
  have v8 := g.vl
  have e1 : pGt (as.length : Nat) 8 = false := by unfold pGt; exact decide_eq_false (by omega)
  have e2 : pGt ((varsOf as).length : Nat) 8 = false := by unfold pGt; exact decide_eq_false (by omega)
  rw [e1, e2] at hk
  cases hk
def Fits (c : List Tb) (as : List Atom) : Prop := ∀ a ∈ as, ∃ i t, FirstAt c a.1 i t ∧ t.cols = (a.2.length : Nat)
def r_check_fit : RS := fun cs μ A _ => ∃ c hd as, cs = [.d (dCat c), .d (dPat hd as)] ∧ GoodCat c ∧ GoodPat hd as ∧ Fits c as ∧ A (.d .none) μ
theorem fit_loop {c : List Tb} {c1 : Cl} {μ : Sto} {st : Sto → Prop} {Z : AD} (hs : st μ) (hl : c.length ≤ 100) (hZ : ∀ o2 o3, Z.nx [some (.d (dCat c)), some c1, o2, o3] μ) : ∀ (as : List Atom) (o2 o3 : Option Cl), (∀ a ∈ as, ∃ i t, FirstAt c a.1 i t ∧ t.cols = (a.2.length : Nat)) →
    forL (gTu 2 (gsCons (gN 2) (gsCons (gN 3) gsNil))) (sIf (aTest (aOp (fEq true) (aIx (aCall r_table_at (aCons (aVar 0) (aCons (aVar 2) aNil))) (aC (.int 1))) (aCB fLen (aCons (aVar 3) aNil)))) sNever sNext) st Z ((as.map dAtom).map .d) [some (.d (dCat c)), some c1, o2, o3] μ
  | [], o2, o3, _ => ⟨hs, hZ o2 o3⟩
  | a :: as, o2, o3, hf => by
    obtain ⟨i, t, h1, h2⟩ := hf a List.mem_cons_self
    refine ⟨hs, i_g2N ?_⟩
    have p0 : Pu (aVar 0) [some (.d (dCat c)), some c1, some (.d (.str a.1)), some (.d (dS a.2))] μ (.d (dCat c)) := pu_var rfl
    have p2 : Pu (aVar 2) [some (.d (dCat c)), some c1, some (.d (.str a.1)), some (.d (dS a.2))] μ (.d (.str a.1)) := pu_var rfl
    have p3 : Pu (aVar 3) [some (.d (dCat c)), some c1, some (.d (.str a.1)), some (.d (dS a.2))] μ (.d (dS a.2)) := pu_var rfl
    have l3 := pu_lenD p3 (l := a.2.map PyData.str) (.inr rfl)
    rw [List.length_map] at l3
    have pt : Pu (aCall r_table_at (aCons (aVar 0) (aCons (aVar 2) aNil))) [some (.d (dCat c)), some c1, some (.d (.str a.1)), some (.d (dS a.2))] μ (.d (dTb t)) := pu_call2 p0 p2 fun er Q q => ⟨c, a.1, i, t, rfl, h1, hl, q⟩
    have pcol : Pu (aIx (aCall r_table_at (aCons (aVar 0) (aCons (aVar 2) aNil))) (aC (.int 1))) [some (.d (dCat c)), some c1, some (.d (.str a.1)), some (.d (dS a.2))] μ (.d (.int t.cols)) := pu_ixD (i := 1) pt pu_c (l := [.str t.nm, .int t.cols, .tuple (t.rows.map dL)]) (.inr rfl) rfl
    refine i_if (put (pu_eqI (n := true) pcol l3)) (fun hk => ?_) (fun _ => ?_)
    · rw [decide_eq_true h2] at hk
      cases hk
    · exact fit_loop hs hl hZ as _ _ fun b hb => hf b (List.mem_cons_of_mem _ hb)
theorem h_check_fit (cs : List Cl) (μ : Sto) (A : Cl → Sto → Prop) (er : Er) (h : r_check_fit cs μ A er) : a_check_fit r_check_catalogue r_check_pattern r_table_at (bodyD μ A er) (startE ns_check_fit cs) μ := by
  obtain ⟨c, hd, as, rfl, gc, gp, ft, h⟩ := h
  show a_check_fit _ _ _ _ [some (.d (dCat c)), some (.d (dPat hd as)), none, none] μ
  have p0 : Pu (aVar 0) [some (.d (dCat c)), some (.d (dPat hd as)), none, none] μ (.d (dCat c)) := pu_var rfl
  have p1 : Pu (aVar 1) [some (.d (dCat c)), some (.d (dPat hd as)), none, none] μ (.d (dPat hd as)) := pu_var rfl
  refine i_sexp (i_call1 p0 ⟨c, rfl, gc, ?_⟩)
  refine i_sexp (i_call1 p1 ⟨hd, as, rfl, gp, ?_⟩)
  have q1 : Pu (aIx (aVar 1) (aC (.int 1))) [some (.d (dCat c)), some (.d (dPat hd as)), none, none] μ (.d (.tuple (as.map dAtom))) := pu_ixD (i := 1) p1 pu_c (l := [dS hd, .tuple (as.map dAtom)]) (.inr rfl) rfl
  refine i_for (i_seqD q1 (.inr rfl) ?_)
  exact fit_loop trivial (by have := gc.len; omega) (fun o2 o3 => (show finR μ A (.d .none) μ from .inl h)) as none none ft
end Jh

set_option Elab.async false
set_option linter.all false
set_option maxRecDepth 100000
set_option maxHeartbeats 4000000
namespace Jh
open PySem PySem.Spec PyProof.Rows L2
/-! ### sorted -/
def leS (a b : Str) : Bool := PySem.W.dataLe false (fun d => d) (PyData.str a) (PyData.str b)
def sS (l : List Str) : List Str := l.mergeSort leS
theorem sortD_str (l : List Str) : sortD (l.map .str) = (sS l).map .str := by
  have e := PySem.W.sort_maps (r := leS) (s := PySem.W.dataLe false fun d => d) (l := l) (fun s => PyData.str s) (fun _ _ _ _ => rfl)
  exact e.symm
theorem leS_iff (a b : Str) : leS a b = true ↔ ¬ b.cps.toList < a.cps.toList := by
  have e : leS a b = !PySem.W.dataLt (.str b) (.str a) := rfl
  rw [e, PySem.W.dataLt_str]
  simp
theorem str_ext {a b : Str} (h : a.cps.toList = b.cps.toList) : a = b := by
  cases a with
  | mk x => cases b with
    | mk y =>
      have h' : x.toList = y.toList := h
      rw [Array.toList_inj.mp h']
theorem sS_perm {l l' : List Str} (h : l.Perm l') : sS l = sS l' := by
  have tr : ∀ a b c : Str, leS a b = true → leS b c = true → leS a c = true := fun a b c h1 h2 => by
    rw [leS_iff] at h1 h2 ⊢
    intro h3
    have h1 := List.not_lt.mp h1
    have h2 := List.not_lt.mp h2
    exact absurd h3 (List.not_lt.mpr (List.le_trans h1 h2))
  have to : ∀ a b : Str, (leS a b || leS b a) = true := fun a b => by
    rw [Bool.or_eq_true, leS_iff, leS_iff]
    by_cases h : b.cps.toList < a.cps.toList
    · exact .inr fun z => List.lt_asymm h z
    · exact .inl h
  refine List.Perm.eq_of_pairwise (le := fun a b => leS a b = true) (fun a b _ _ h1 h2 => ?_) (List.pairwise_mergeSort tr to l) (List.pairwise_mergeSort tr to l') (((List.mergeSort_perm l leS).trans h).trans (List.mergeSort_perm l' leS).symm)
  rw [leS_iff] at h1 h2
  exact str_ext (List.le_antisymm (List.not_lt.mp h1) (List.not_lt.mp h2))
theorem sS_len (l : List Str) : (sS l).length = l.length := List.length_mergeSort ..
section
variable {a b e : AX} {ρ : En} {μ : Sto} {c x y : Cl} {D : AD} {s u : ASt} {f : Nat}
theorem pu_sortS {x : PyData} {l : List Str} (ha : Pu a ρ μ (.d x)) (hx : SeqD x (l.map .str)) (hl : l.length ≤ 1000) : Pu (aFrz (aCBL fSort (aCons a aNil))) ρ μ (.d (.list ((sS l).map .str))) := fun er Q q => ha er _ (by
  show match cellsOf (.d x) μ with | some xs => (match allD xs with | some ds => PySem.W.AllAlike ds ∧ PySem.W.Sortable ds ∧ ds.length ≤ 1000 ∧ (∀ d ∈ ds, d.depth ≤ 32) ∧ (match allD ((sortD ds).map .d) with | some ds => Q (.d (.list ds)) μ | none => False) | none => False) | none => False
  rw [seqD_cells hx]
  show match allD ((l.map PyData.str).map Cl.d) with | some ds => PySem.W.AllAlike ds ∧ PySem.W.Sortable ds ∧ ds.length ≤ 1000 ∧ (∀ d ∈ ds, d.depth ≤ 32) ∧ (match allD ((sortD ds).map .d) with | some ds => Q (.d (.list ds)) μ | none => False) | none => False
  rw [allD_map]
  refine ⟨fun d hd d' hd' => ?_, .inr fun d hd => ?_, by rw [List.length_map]; exact hl, fun d hd => ?_, ?_⟩
  · obtain ⟨s, _, rfl⟩ := List.mem_map.mp hd
    obtain ⟨t, _, rfl⟩ := List.mem_map.mp hd'
    simp only [PySem.W.alike]
  · obtain ⟨s, _, rfl⟩ := List.mem_map.mp hd
    exact ⟨(fun z => by cases z), fun xs z => by cases z⟩
  · obtain ⟨s, _, rfl⟩ := List.mem_map.mp hd
    exact Nat.le_of_ble_eq_true rfl
  · rw [sortD_str, allD_map]; exact q)
theorem pu_eqD {n : Bool} {d d' : PyData} (ha : Pu a ρ μ (.d d)) (hb : Pu b ρ μ (.d d')) (hd : d.depth ≤ 32) : Pu (aOp (fEq n) a b) ρ μ (.d (.bool (n != PyData.eqv d d'))) := fun er Q q => ha er _ (hb er _ (And.intro hd q))
end
theorem eqv_strs (l l' : List Str) : PyData.eqv (.list (l.map .str)) (.list (l'.map .str)) = decide (l = l') := PySem.W.Datum.eqv l l'
theorem depth_strs (l : List Str) : (PyData.list (l.map .str)).depth ≤ 32 := Nat.le_trans (PySem.W.Datum.depth_le l) (by decide)
def r_check_order (CO : Addr) : RS := fun cs μ A er => ∃ hd as ord, cs = [.d (dPat hd as), .d (dS ord)] ∧ lenOf as ≤ 900 ∧ ord.length ≤ 900 ∧ (sS ord = sS (varsOf as) → A (.d .none) μ) ∧ (sS ord ≠ sS (varsOf as) → er CO μ)
theorem varsOf_len (as : List Atom) : (varsOf as).length ≤ lenOf as := by
  have key : ∀ (as : List Atom) (F : List Str), (as.foldl (fun f a => a.2.foldl addV f) F).length ≤ F.length + lenOf as := by
    intro as
    induction as with
    | nil => intro F; exact Nat.le_refl _
    | cons a as ih =>
      intro F
      have h1 := ih (a.2.foldl addV F)
      have h2 := addVs_len a.2 F
      show _ ≤ F.length + (a.2.length + lenOf as)
      rw [List.foldl_cons]
      omega
  have := key as []
  simpa [varsOf] using this
theorem h_check_order (CO : Addr) (cs : List Cl) (μ : Sto) (A : Cl → Sto → Prop) (er : Er) (h : r_check_order CO cs μ A er) : a_check_order CO r_all_variables (bodyD μ A er) (startE ns_check_order cs) μ := by
  obtain ⟨hd, as, ord, rfl, hl, ho, h1, h2⟩ := h
  show a_check_order CO _ _ [some (.d (dPat hd as)), some (.d (dS ord))] μ
  have p1 := pu_sortS (a := aVar 1) (ρ := [some (.d (dPat hd as)), some (.d (dS ord))]) (μ := μ) (x := dS ord) (l := ord) (pu_var rfl) (.inr rfl) (by omega)
  have p0 : Pu (aCall r_all_variables (aCons (aVar 0) aNil)) [some (.d (dPat hd as)), some (.d (dS ord))] μ (.d (dS (varsOf as))) := pu_call1 (c1 := .d (dPat hd as)) (pu_var rfl) fun er Q q => ⟨hd, as, rfl, hl, q⟩
  have p2 := pu_sortS p0 (l := varsOf as) (.inr rfl) (by have := varsOf_len as; omega)
  have p3 := pu_eqD (n := true) p1 p2 (depth_strs _)
  rw [eqv_strs, neg_true] at p3
  refine i_if (put p3) (fun hk => ?_) (fun hk => ?_)
  · exact .inl (h2 (by simpa using hk))
  · exact .inl (h1 (by simpa using hk))
/-! ### bounds -/
def lcmI (a b : Int) : Int := (Nat.lcm a.natAbs b.natAbs : Nat)
def qOf (cov : List Frc) : Int := cov.foldl (fun q f => lcmI q f.2) 1
def powOf (q : Int) (f : Frc) : Int := q / f.2 * f.1
def prodOf (q : Int) : List Nat → List Frc → Int → Int
  | n :: ns, f :: fs, p => prodOf q ns fs (p * (n : Int) ^ (powOf q f).toNat)
  | _, _, p => p
def bnd (ms : List Nat) (cov : List Frc) : Frc := (qOf cov, prodOf (qOf cov) ms cov 1)
abbrev dCov (cov : List Frc) : PyData := .tuple (cov.map dF)
structure CovOk (cov : List Frc) : Prop where
  len : cov.length ≤ 4
  den : ∀ f ∈ cov, 1 ≤ f.2 ∧ f.2 ≤ 8
  num : ∀ f ∈ cov, -100 ≤ f.1 ∧ f.1 ≤ 100
theorem lcm_bd {a b : Int} (ha : 1 ≤ a) (hb : 1 ≤ b) : 1 ≤ lcmI a b ∧ lcmI a b ≤ a * b := by
  unfold lcmI
  have h1 : 0 < Nat.lcm a.natAbs b.natAbs := Nat.lcm_pos (by omega) (by omega)
  have h2 : Nat.lcm a.natAbs b.natAbs ≤ a.natAbs * b.natAbs := by
    unfold Nat.lcm
    exact Nat.div_le_self _ _
  have h3 : ((a.natAbs * b.natAbs : Nat) : Int) = a * b := by
    rw [Int.natCast_mul, Int.natAbs_of_nonneg (by omega), Int.natAbs_of_nonneg (by omega)]
  omega
theorem q_bd : ∀ (cov : List Frc) (q : Int) (k : Nat), 1 ≤ q → q ≤ 8 ^ k → (∀ f ∈ cov, 1 ≤ f.2 ∧ f.2 ≤ 8) → 1 ≤ cov.foldl (fun q f => lcmI q f.2) q ∧ cov.foldl (fun q f => lcmI q f.2) q ≤ 8 ^ (k + cov.length)
  | [], q, k, h1, h2, _ => ⟨h1, h2⟩
  | f :: cov, q, k, h1, h2, h => by
    have hf := h f List.mem_cons_self
    have b := lcm_bd h1 hf.1
    have h3 : q * f.2 ≤ 8 ^ k * 8 := Int.mul_le_mul h2 hf.2 (by omega) (Int.pow_nonneg (by omega))
    have := q_bd cov (lcmI q f.2) (k + 1) b.1 (by rw [Int.pow_succ]; omega) fun g hg => h g (List.mem_cons_of_mem _ hg)
    rw [List.foldl_cons, List.length_cons, show k + (cov.length + 1) = k + 1 + cov.length by omega]
    exact this
theorem qOf_bd {cov : List Frc} (h : CovOk cov) : 1 ≤ qOf cov ∧ qOf cov ≤ 4096 := by
  have := q_bd cov 1 0 (by omega) (by decide) h.den
  refine ⟨this.1, Int.le_trans this.2 ?_⟩
  have l := h.len
  have e := pow_mono (x := 8) (by omega) (0 + cov.length) (4 - cov.length)
  rw [show 0 + cov.length + (4 - cov.length) = 4 by omega] at e
  exact e
theorem div_bd {q d : Int} (hq : 1 ≤ q) (hd : 1 ≤ d) : 0 ≤ q / d ∧ q / d ≤ q := ⟨Int.ediv_nonneg (by omega) (by omega), Int.ediv_le_self _ (by omega)⟩
theorem pow_bd {q : Int} {f : Frc} (hq : 1 ≤ q) (hq2 : q ≤ 4096) (hd : 1 ≤ f.2) (hn : -100 ≤ f.1 ∧ f.1 ≤ 100) : -409600 ≤ powOf q f ∧ powOf q f ≤ 409600 := by
  have b := div_bd hq hd
  unfold powOf
  generalize q / f.2 = z at *
  have h1 : z * f.1 ≤ z * 100 := Int.mul_le_mul_of_nonneg_left hn.2 b.1
  have h2 : z * (-100) ≤ z * f.1 := Int.mul_le_mul_of_nonneg_left hn.1 b.1
  omega
/-- how many rows each atom's table has -/
def Ms (c : List Tb) (as : List Atom) (ms : List Nat) : Prop := ms.length = as.length ∧ ∀ (k : Nat) a, as[k]? = some a → ∃ i t, FirstAt c a.1 i t ∧ ms[k]? = some t.rows.length ∧ t.rows.length ≤ 100
theorem pu_lcm {a b : AX} {ρ : En} {μ : Sto} {i j : Int} (ha : Pu a ρ μ (.d (.int i))) (hb : Pu b ρ μ (.d (.int j))) (h1 : i.natAbs < 2 ^ 60) (h2 : j.natAbs < 2 ^ 60) : Pu (aCB fLcm (aCons a (aCons b aNil))) ρ μ (.d (.int (lcmI i j))) := fun er Q q => ha er _ (hb er _ (And.intro h1 (And.intro h2 q)))
/-- one more factor -/
theorem mul_pow (p n : Int) (k : Nat) : p * n * n ^ k = p * n ^ (k + 1) := by
  rw [Int.mul_assoc, Int.pow_succ, Int.mul_comm n]
theorem bf_inner {c0 c1 c2 c3 c6 c7 : Cl} {o4 : Option Cl} {μ : Sto} {st : Sto → Prop} {Z : AD} {n : Nat} (hn : n ≤ 100) (hs : st μ) : ∀ (xs : List Cl) (p : Int) (o9 : Option Cl),
    (∀ o9, Z.nx [some c0, some c1, some c2, some c3, o4, some (.d (.int (p * (n : Int) ^ xs.length))), some c6, some c7, some (.d (.int (n : Nat))), o9] μ) →
    forL (gN 9) (sAsg (aOp fMul (aVar 5) (aVar 8)) (gN 5)) st Z xs [some c0, some c1, some c2, some c3, o4, some (.d (.int p)), some c6, some c7, some (.d (.int (n : Nat))), o9] μ
  | [], p, o9, h => ⟨hs, by have := h o9; rwa [show p * (n : Int) ^ ([] : List Cl).length = p from by show p * (n : Int) ^ 0 = p; rw [Int.pow_zero, Int.mul_one]] at this⟩
  | y :: xs, p, o9, h => by
    refine ⟨hs, mulR (by omega), ?_⟩
    refine bf_inner hn hs xs (p * n) _ fun o9 => ?_
    have := h o9
    rw [List.length_cons, ← mul_pow] at this
    exact this
abbrev bfBody (CC : Addr) : ASt := (sSeq (sAsg (aOp fMul (aOp fDiv (aVar 3) (aIx (aIx (aVar 2) (aVar 6)) (aC (.int 1)))) (aIx (aIx (aVar 2) (aVar 6)) (aC (.int 0)))) (gN 7))
    (sSeq (sIf (aTest (aOp (fI pGt) (aVar 7) (aC (.int (64))))) (sRaise CC) sNext)
    (sSeq (sAsg (aCB fLen (aCons (aIx (aCall r_table_at (aCons (aVar 0) (aCons (aIx (aIx (aIx (aVar 1) (aC (.int 1))) (aVar 6)) (aC (.int 0))) aNil))) (aC (.int 2))) aNil)) (gN 8))
    (sFor (aRg1 (aCons (aVar 7) aNil)) (gN 9) (sAsg (aOp fMul (aVar 5) (aVar 8)) (gN 5))))))
theorem i_rg1I {a : AX} {ρ : En} {μ : Sto} {n : Int} {er : Er} {Q : List Cl → (Sto → Prop) → Sto → Prop} (ha : Pu a ρ μ (.d (.int n))) (h1 : -1000000 ≤ n) (h2 : n ≤ 1000000) (h : Q (rgC 0 n.toNat) (fun _ => True) μ) : aRg1 (aCons a aNil) er ρ μ Q := ha er _ (And.intro h1 (And.intro h2 h))
theorem bf_outer {CC : Addr} {c : List Tb} {hd : List Str} {as : List Atom} {ms : List Nat} {cov : List Frc} {μ : Sto} {st : Sto → Prop} {Z : AD} (hc : c.length ≤ 100) (ok : CovOk cov) (M : Ms c as ms) (hlen : cov.length = as.length) (hs : st μ) (hE : (∃ f ∈ cov, 64 < powOf (qOf cov) f) → Z.er CC μ)
    (hZ : (∀ f ∈ cov, powOf (qOf cov) f ≤ 64) → ∀ o4 o6 o7 o8 o9, Z.nx [some (.d (dCat c)), some (.d (dPat hd as)), some (.d (dCov cov)), some (.d (.int (qOf cov))), o4, some (.d (.int (prodOf (qOf cov) ms cov 1))), o6, o7, o8, o9] μ) :
    ∀ (q i : Nat) (p : Int) (o4 o6 o7 o8 o9 : Option Cl), i + q = cov.length → prodOf (qOf cov) (ms.drop i) (cov.drop i) p = prodOf (qOf cov) ms cov 1 → (∀ k f, k < i → cov[k]? = some f → powOf (qOf cov) f ≤ 64) →
      forL (gN 6) (bfBody CC) st Z ((List.range' i q).map fun i => Cl.d (.int (i : Nat))) [some (.d (dCat c)), some (.d (dPat hd as)), some (.d (dCov cov)), some (.d (.int (qOf cov))), o4, some (.d (.int p)), o6, o7, o8, o9] μ
  | 0, i, p, o4, o6, o7, o8, o9, e, hp, hb => by
    refine ⟨hs, ?_⟩
    have e' : i = cov.length := by omega
    subst e'
    rw [List.drop_length] at hp
    have : p = prodOf (qOf cov) ms cov 1 := by rw [← hp]; cases ms.drop cov.length <;> rfl
    rw [this]
    refine hZ (fun f hf => ?_) o4 o6 o7 o8 o9
    obtain ⟨k, hk, rfl⟩ := List.getElem_of_mem hf
    exact hb k _ hk (List.getElem?_eq_getElem hk)
  | q + 1, i, p, o4, o6, o7, o8, o9, e, hp, hb => by
    have hi : i < cov.length := by omega
    have gf : cov[i]? = some cov[i] := List.getElem?_eq_getElem hi
    have hf : cov[i] ∈ cov := List.getElem_mem hi
    have ga : as[i]? = some (as[i]'(by omega)) := List.getElem?_eq_getElem _
    obtain ⟨ti, t, ft, hm, hr⟩ := M.2 i _ ga
    rw [drop_get gf, drop_get hm] at hp
    generalize cov[i] = f at gf hf hp
    generalize as[i]'(by omega) = a at ga ft
    have qb := qOf_bd ok
    have fd := ok.den f hf
    have fn := ok.num f hf
    have pb := pow_bd qb.1 qb.2 fd.1 fn
    have db := div_bd qb.1 fd.1
    rw [List.range'_succ]
    refine ⟨hs, ?_⟩
    have pcv : Pu (aIx (aVar 2) (aVar 6)) [some (.d (dCat c)), some (.d (dPat hd as)), some (.d (dCov cov)), some (.d (.int (qOf cov))), o4, some (.d (.int p)), some (.d (.int (i : Nat))), o7, o8, o9] μ (.d (dF f)) := pu_ixD (d := dCov cov) (i := i) (l := cov.map dF) (pu_var rfl) (pu_var rfl) (.inr rfl) (by rw [List.getElem?_map, gf]; rfl)
    have pd : Pu (aIx (aIx (aVar 2) (aVar 6)) (aC (.int 1))) [some (.d (dCat c)), some (.d (dPat hd as)), some (.d (dCov cov)), some (.d (.int (qOf cov))), o4, some (.d (.int p)), some (.d (.int (i : Nat))), o7, o8, o9] μ (.d (.int f.2)) := pu_ixD (i := 1) (l := [.int f.1, .int f.2]) pcv pu_c (.inr rfl) rfl
    have pn : Pu (aIx (aIx (aVar 2) (aVar 6)) (aC (.int 0))) [some (.d (dCat c)), some (.d (dPat hd as)), some (.d (dCov cov)), some (.d (.int (qOf cov))), o4, some (.d (.int p)), some (.d (.int (i : Nat))), o7, o8, o9] μ (.d (.int f.1)) := pu_ixD (i := 0) (l := [.int f.1, .int f.2]) pcv pu_c (.inr rfl) rfl
    refine i_sset (c := .d (.int (powOf (qOf cov) f))) (pu_mul (pu_div (pu_var rfl) pd (divOk (by omega))) pn (mulR (by omega))) ?_
    refine i_sif (put (pu_I (p := pGt) (i := powOf (qOf cov) f) (pu_var rfl) (pu_c (d := .int 64)))) (fun hk => ?_) (fun hk => ?_)
    · exact hE ⟨f, hf, by unfold pGt at hk; exact of_decide_eq_true hk⟩
    have hle : powOf (qOf cov) f ≤ 64 := by unfold pGt at hk; have := of_decide_eq_false hk; omega
    have pa : Pu (aIx (aIx (aVar 1) (aC (.int 1))) (aVar 6)) [some (.d (dCat c)), some (.d (dPat hd as)), some (.d (dCov cov)), some (.d (.int (qOf cov))), o4, some (.d (.int p)), some (.d (.int (i : Nat))), some (.d (.int (powOf (qOf cov) f))), o8, o9] μ (.d (dAtom a)) :=
      pu_ixD (i := i) (l := as.map dAtom) (pu_ixD (i := 1) (d := dPat hd as) (l := [dS hd, .tuple (as.map dAtom)]) (pu_var rfl) pu_c (.inr rfl) rfl) (pu_var rfl) (.inr rfl) (by rw [List.getElem?_map, ga]; rfl)
    have pnm : Pu (aIx (aIx (aIx (aVar 1) (aC (.int 1))) (aVar 6)) (aC (.int 0))) [some (.d (dCat c)), some (.d (dPat hd as)), some (.d (dCov cov)), some (.d (.int (qOf cov))), o4, some (.d (.int p)), some (.d (.int (i : Nat))), some (.d (.int (powOf (qOf cov) f))), o8, o9] μ (.d (.str a.1)) :=
      pu_ixD (i := 0) (l := [.str a.1, dS a.2]) pa pu_c (.inr rfl) rfl
    have pt : Pu (aCall r_table_at (aCons (aVar 0) (aCons (aIx (aIx (aIx (aVar 1) (aC (.int 1))) (aVar 6)) (aC (.int 0))) aNil))) [some (.d (dCat c)), some (.d (dPat hd as)), some (.d (dCov cov)), some (.d (.int (qOf cov))), o4, some (.d (.int p)), some (.d (.int (i : Nat))), some (.d (.int (powOf (qOf cov) f))), o8, o9] μ (.d (dTb t)) :=
      pu_call2 (c1 := .d (dCat c)) (pu_var rfl) pnm fun er Q q => ⟨c, a.1, ti, t, rfl, ft, hc, q⟩
    have pr := pu_lenD (pu_ixD (i := 2) (l := [.str t.nm, .int t.cols, .tuple (t.rows.map dL)]) (d' := .tuple (t.rows.map dL)) pt pu_c (.inr rfl) rfl) (l := t.rows.map dL) (.inr rfl)
    rw [List.length_map] at pr
    refine i_sset pr (i_for (i_rg1I (n := powOf (qOf cov) f) (pu_var rfl) (by omega) (by omega) ?_))
    refine bf_inner (n := t.rows.length) hr trivial (rgC 0 (powOf (qOf cov) f).toNat) p o9 fun o9 => ?_
    rw [rgC_len]
    exact bf_outer hc ok M hlen hs hE hZ q (i + 1) _ _ _ _ _ _ (by omega) hp fun k g hk hg => by
      by_cases e2 : k = i
      · subst e2; rw [gf] at hg; cases hg; exact hle
      · exact hb k g (by omega) hg
theorem lcm_loop {c0 c1 c2 : Cl} {μ : Sto} {st : Sto → Prop} {Z : AD} (hs : st μ) : ∀ (cov : List Frc) (q : Int) (o4 : Option Cl), 1 ≤ q → q * 8 ^ cov.length ≤ 1000000 → (∀ f ∈ cov, 1 ≤ f.2 ∧ f.2 ≤ 8) →
    (∀ o4, Z.nx [some c0, some c1, some c2, some (.d (.int (cov.foldl (fun q f => lcmI q f.2) q))), o4, none, none, none, none, none] μ) →
    forL (gN 4) (sAsg (aCB fLcm (aCons (aVar 3) (aCons (aIx (aVar 4) (aC (.int 1))) aNil))) (gN 3)) st Z ((cov.map dF).map .d) [some c0, some c1, some c2, some (.d (.int q)), o4, none, none, none, none, none] μ
  | [], q, o4, _, _, _, h => ⟨hs, h o4⟩
  | f :: cov, q, o4, h1, h2, hd, h => by
    have hf := hd f List.mem_cons_self
    have b := lcm_bd h1 hf.1
    rw [List.length_cons, Int.pow_succ] at h2
    have hp : (1 : Int) ≤ 8 ^ cov.length := by
      have := pow_mono (x := 8) (by omega) 0 cov.length
      rw [Nat.zero_add] at this; exact this
    have h3 : q * f.2 ≤ q * 8 := Int.mul_le_mul_of_nonneg_left hf.2 (by omega)
    have h4 : lcmI q f.2 * 8 ^ cov.length ≤ q * 8 * 8 ^ cov.length := Int.mul_le_mul_of_nonneg_right (by omega) (by omega)
    have h5 : q * 8 * 8 ^ cov.length = q * (8 ^ cov.length * 8) := by rw [Int.mul_assoc, Int.mul_comm 8]
    have h6 : q * 1 ≤ q * (8 ^ cov.length * 8) := Int.mul_le_mul_of_nonneg_left (by omega) (by omega)
    refine ⟨hs, ?_⟩
    have p4 : Pu (aIx (aVar 4) (aC (.int 1))) [some c0, some c1, some c2, some (.d (.int q)), some (.d (dF f)), none, none, none, none, none] μ (.d (.int f.2)) := pu_ixD (i := 1) (d := dF f) (l := [.int f.1, .int f.2]) (pu_var rfl) pu_c (.inr rfl) rfl
    refine i_set (c := .d (.int (lcmI q f.2))) (pu_lcm (i := q) (pu_var rfl) p4 (by omega) (by omega)) ?_
    exact lcm_loop hs cov (lcmI q f.2) _ b.1 (by omega) (fun g hg => hd g (List.mem_cons_of_mem _ hg)) h
def r_bound_for (CC : Addr) : RS := fun cs μ A er => ∃ c hd as cov ms, cs = [.d (dCat c), .d (dPat hd as), .d (dCov cov)] ∧ c.length ≤ 100 ∧ CovOk cov ∧ Ms c as ms ∧ cov.length = as.length ∧
  ((∀ f ∈ cov, powOf (qOf cov) f ≤ 64) → A (.d (dF (bnd ms cov))) μ) ∧ ((∃ f ∈ cov, 64 < powOf (qOf cov) f) → er CC μ)
theorem h_bound_for (CC : Addr) (cs : List Cl) (μ : Sto) (A : Cl → Sto → Prop) (er : Er) (h : r_bound_for CC cs μ A er) : a_bound_for CC r_table_at (bodyD μ A er) (startE ns_bound_for cs) μ := by
  obtain ⟨c, hd, as, cov, ms, rfl, hc, ok, M, hl, h1, h2⟩ := h
  show a_bound_for CC _ _ [some (.d (dCat c)), some (.d (dPat hd as)), some (.d (dCov cov)), none, none, none, none, none, none, none] μ
  refine i_sset (c := .d (.int 1)) pu_c ?_
  refine i_sfor (i_seqD (d := dCov cov) (l := cov.map dF) (pu_var rfl) (.inr rfl) ?_)
  refine lcm_loop trivial cov 1 none (by omega) ?_ ok.den fun o4 => ?_
  · have l := ok.len
    have e := pow_mono (x := 8) (by omega) (0 + cov.length) (4 - cov.length)
    rw [show 0 + cov.length + (4 - cov.length) = 4 by omega, Nat.zero_add] at e
    have : (8 : Int) ^ 4 = 4096 := by decide
    omega
  have pl := pu_lenD (pu_var (i := 2) (c := .d (dCov cov)) (ρ := [some (.d (dCat c)), some (.d (dPat hd as)), some (.d (dCov cov)), some (.d (.int (qOf cov))), o4, some (.d (.int 1)), none, none, none, none]) (μ := μ) rfl) (l := cov.map dF) (.inr rfl)
  rw [List.length_map] at pl
  have go : sSeq (sAsg (aC (.int 1)) (gN 5)) (sSeq (sFor (aRg1 (aCons (aCB fLen (aCons (aVar 2) aNil)) aNil)) (gN 6) (bfBody CC)) (sRet (aTup (aCons (aVar 3) (aCons (aVar 5) aNil))))) (bodyD μ A er) [some (.d (dCat c)), some (.d (dPat hd as)), some (.d (dCov cov)), some (.d (.int (qOf cov))), o4, none, none, none, none, none] μ := by
    refine i_sset (c := .d (.int 1)) pu_c ?_
    refine i_sfor (i_rg1 pl (by have := ok.len; omega) ?_)
    rw [rgC0, List.range_eq_range']
    refine bf_outer hc ok M hl trivial (fun h => (show finE μ er CC μ from .inl (h2 h))) (fun h o4 o6 o7 o8 o9 => ?_) cov.length 0 1 o4 none none none none (by omega) rfl (fun k f hk => by omega)
    exact i_ret (D := bodyD μ A er) (ρ := [some (.d (dCat c)), some (.d (dPat hd as)), some (.d (dCov cov)), some (.d (.int (qOf cov))), o4, some (.d (.int (prodOf (qOf cov) ms cov 1))), o6, o7, o8, o9]) (pu_tup2 (d1 := .int (qOf cov)) (d2 := .int (prodOf (qOf cov) ms cov 1)) (pu_var (i := 3) rfl) (pu_var (i := 5) rfl)) (.inl (h1 h))
  exact go
end Jh

set_option Elab.async false
set_option linter.all false
set_option maxRecDepth 100000
set_option maxHeartbeats 4000000
namespace Jh
open PySem PySem.Spec PyProof.Rows L2
/-! ### _law_bound -/
theorem lcm_by_gcd {q d : Int} (hq : 1 ≤ q) (hd : 1 ≤ d) : q / (Int.gcd q d : Nat) * d = lcmI q d := by
  obtain ⟨m, rfl⟩ := Int.eq_ofNat_of_zero_le (show 0 ≤ q by omega)
  obtain ⟨n, rfl⟩ := Int.eq_ofNat_of_zero_le (show 0 ≤ d by omega)
  have e : Int.gcd (m : Int) (n : Int) = Nat.gcd m n := by rw [Int.gcd_eq_natAbs_gcd_natAbs, Int.natAbs_natCast, Int.natAbs_natCast]
  rw [e]
  unfold lcmI
  rw [Int.natAbs_natCast, Int.natAbs_natCast, ← Int.natCast_ediv, ← Int.natCast_mul]
  congr 1
  unfold Nat.lcm
  exact Nat.div_mul_right_comm (Nat.gcd_dvd_left m n) n
theorem lb_inner {c0 c1 c2 c3 c6 : Cl} {o4 : Option Cl} {μ : Sto} {st : Sto → Prop} {Z : AD} {n : Nat} (hn : n ≤ 100) (hs : st μ) : ∀ (xs : List Cl) (p : Int) (o8 : Option Cl),
    (∀ o8, Z.nx [some c0, some c1, some c2, some c3, o4, some (.d (.int (p * (n : Int) ^ xs.length))), some c6, some (.d (.int (n : Nat))), o8] μ) →
    forL (gN 8) (sAsg (aOp fMul (aVar 5) (aVar 7)) (gN 5)) st Z xs [some c0, some c1, some c2, some c3, o4, some (.d (.int p)), some c6, some (.d (.int (n : Nat))), o8] μ
  | [], p, o8, h => ⟨hs, by have := h o8; rwa [show p * (n : Int) ^ ([] : List Cl).length = p from by show p * (n : Int) ^ 0 = p; rw [Int.pow_zero, Int.mul_one]] at this⟩
  | y :: xs, p, o8, h => by
    refine ⟨hs, mulR (by omega), ?_⟩
    refine lb_inner hn hs xs (p * n) _ fun o8 => ?_
    have := h o8
    rw [List.length_cons, ← mul_pow] at this
    exact this
abbrev lbBody : ASt := (sSeq (sAsg (aCB fLen (aCons (aIx (aCall r_table_at (aCons (aVar 0) (aCons (aIx (aIx (aIx (aVar 1) (aC (.int 1))) (aVar 6)) (aC (.int 0))) aNil))) (aC (.int 2))) aNil)) (gN 7))
    (sFor (aRg1 (aCons (aOp fMul (aOp fDiv (aVar 3) (aIx (aIx (aVar 2) (aVar 6)) (aC (.int 1)))) (aIx (aIx (aVar 2) (aVar 6)) (aC (.int 0)))) aNil)) (gN 8) (sAsg (aOp fMul (aVar 5) (aVar 7)) (gN 5))))
theorem lb_outer {c : List Tb} {hd : List Str} {as : List Atom} {ms : List Nat} {cov : List Frc} {μ : Sto} {st : Sto → Prop} {Z : AD} (hc : c.length ≤ 100) (ok : CovOk cov) (M : Ms c as ms) (hlen : cov.length = as.length) (hs : st μ)
    (hZ : ∀ o4 o6 o7 o8, Z.nx [some (.d (dCat c)), some (.d (dPat hd as)), some (.d (dCov cov)), some (.d (.int (qOf cov))), o4, some (.d (.int (prodOf (qOf cov) ms cov 1))), o6, o7, o8] μ) :
    ∀ (q i : Nat) (p : Int) (o4 o6 o7 o8 : Option Cl), i + q = cov.length → prodOf (qOf cov) (ms.drop i) (cov.drop i) p = prodOf (qOf cov) ms cov 1 →
      forL (gN 6) lbBody st Z ((List.range' i q).map fun i => Cl.d (.int (i : Nat))) [some (.d (dCat c)), some (.d (dPat hd as)), some (.d (dCov cov)), some (.d (.int (qOf cov))), o4, some (.d (.int p)), o6, o7, o8] μ
  | 0, i, p, o4, o6, o7, o8, e, hp => by
    refine ⟨hs, ?_⟩
    have e' : i = cov.length := by omega
    subst e'
    rw [List.drop_length] at hp
    have : p = prodOf (qOf cov) ms cov 1 := by rw [← hp]; cases ms.drop cov.length <;> rfl
    rw [this]
    exact hZ o4 o6 o7 o8
  | q + 1, i, p, o4, o6, o7, o8, e, hp => by
    have hi : i < cov.length := by omega
    have gf : cov[i]? = some cov[i] := List.getElem?_eq_getElem hi
    have hf : cov[i] ∈ cov := List.getElem_mem hi
    have ga : as[i]? = some (as[i]'(by omega)) := List.getElem?_eq_getElem _
    obtain ⟨ti, t, ft, hm, hr⟩ := M.2 i _ ga
    rw [drop_get gf, drop_get hm] at hp
    generalize cov[i] = f at gf hf hp
    generalize as[i]'(by omega) = a at ga ft
    have qb := qOf_bd ok
    have fd := ok.den f hf
    have fn := ok.num f hf
    have pb := pow_bd qb.1 qb.2 fd.1 fn
    have db := div_bd qb.1 fd.1
    rw [List.range'_succ]
    refine ⟨hs, ?_⟩
    have pa : Pu (aIx (aIx (aVar 1) (aC (.int 1))) (aVar 6)) [some (.d (dCat c)), some (.d (dPat hd as)), some (.d (dCov cov)), some (.d (.int (qOf cov))), o4, some (.d (.int p)), some (.d (.int (i : Nat))), o7, o8] μ (.d (dAtom a)) :=
      pu_ixD (i := i) (l := as.map dAtom) (pu_ixD (i := 1) (d := dPat hd as) (l := [dS hd, .tuple (as.map dAtom)]) (pu_var rfl) pu_c (.inr rfl) rfl) (pu_var rfl) (.inr rfl) (by rw [List.getElem?_map, ga]; rfl)
    have pnm : Pu (aIx (aIx (aIx (aVar 1) (aC (.int 1))) (aVar 6)) (aC (.int 0))) [some (.d (dCat c)), some (.d (dPat hd as)), some (.d (dCov cov)), some (.d (.int (qOf cov))), o4, some (.d (.int p)), some (.d (.int (i : Nat))), o7, o8] μ (.d (.str a.1)) :=
      pu_ixD (i := 0) (l := [.str a.1, dS a.2]) pa pu_c (.inr rfl) rfl
    have pt : Pu (aCall r_table_at (aCons (aVar 0) (aCons (aIx (aIx (aIx (aVar 1) (aC (.int 1))) (aVar 6)) (aC (.int 0))) aNil))) [some (.d (dCat c)), some (.d (dPat hd as)), some (.d (dCov cov)), some (.d (.int (qOf cov))), o4, some (.d (.int p)), some (.d (.int (i : Nat))), o7, o8] μ (.d (dTb t)) :=
      pu_call2 (c1 := .d (dCat c)) (pu_var rfl) pnm fun er Q q => ⟨c, a.1, ti, t, rfl, ft, hc, q⟩
    have pr := pu_lenD (pu_ixD (i := 2) (l := [.str t.nm, .int t.cols, .tuple (t.rows.map dL)]) (d' := .tuple (t.rows.map dL)) pt pu_c (.inr rfl) rfl) (l := t.rows.map dL) (.inr rfl)
    rw [List.length_map] at pr
    refine i_sset pr ?_
    have pcv : Pu (aIx (aVar 2) (aVar 6)) [some (.d (dCat c)), some (.d (dPat hd as)), some (.d (dCov cov)), some (.d (.int (qOf cov))), o4, some (.d (.int p)), some (.d (.int (i : Nat))), some (.d (.int (t.rows.length : Nat))), o8] μ (.d (dF f)) := pu_ixD (d := dCov cov) (i := i) (l := cov.map dF) (pu_var rfl) (pu_var rfl) (.inr rfl) (by rw [List.getElem?_map, gf]; rfl)
    have pd : Pu (aIx (aIx (aVar 2) (aVar 6)) (aC (.int 1))) [some (.d (dCat c)), some (.d (dPat hd as)), some (.d (dCov cov)), some (.d (.int (qOf cov))), o4, some (.d (.int p)), some (.d (.int (i : Nat))), some (.d (.int (t.rows.length : Nat))), o8] μ (.d (.int f.2)) := pu_ixD (i := 1) (l := [.int f.1, .int f.2]) pcv pu_c (.inr rfl) rfl
    have pn : Pu (aIx (aIx (aVar 2) (aVar 6)) (aC (.int 0))) [some (.d (dCat c)), some (.d (dPat hd as)), some (.d (dCov cov)), some (.d (.int (qOf cov))), o4, some (.d (.int p)), some (.d (.int (i : Nat))), some (.d (.int (t.rows.length : Nat))), o8] μ (.d (.int f.1)) := pu_ixD (i := 0) (l := [.int f.1, .int f.2]) pcv pu_c (.inr rfl) rfl
    have q3 : Pu (aVar 3) [some (.d (dCat c)), some (.d (dPat hd as)), some (.d (dCov cov)), some (.d (.int (qOf cov))), o4, some (.d (.int p)), some (.d (.int (i : Nat))), some (.d (.int (t.rows.length : Nat))), o8] μ (.d (.int (qOf cov))) := pu_var rfl
    refine i_for (i_rg1I (n := powOf (qOf cov) f) (pu_mul (pu_div q3 pd (divOk (by omega))) pn (mulR (by omega))) (by omega) (by omega) ?_)
    refine lb_inner (n := t.rows.length) hr trivial (rgC 0 (powOf (qOf cov) f).toNat) p o8 fun o8 => ?_
    rw [rgC_len]
    exact lb_outer hc ok M hlen hs hZ q (i + 1) _ _ _ _ _ (by omega) hp
theorem lcmL_loop {c0 c1 c2 : Cl} {μ : Sto} {st : Sto → Prop} {Z : AD} (hs : st μ) : ∀ (cov : List Frc) (q : Int) (o4 : Option Cl), 1 ≤ q → q * 8 ^ cov.length ≤ 1000000 → (∀ f ∈ cov, 1 ≤ f.2 ∧ f.2 ≤ 8) →
    (∀ o4, Z.nx [some c0, some c1, some c2, some (.d (.int (cov.foldl (fun q f => lcmI q f.2) q))), o4, none, none, none, none] μ) →
    forL (gN 4) (sAsg (aOp fMul (aOp fDiv (aVar 3) (aCall r_L_gcd (aCons (aVar 3) (aCons (aIx (aVar 4) (aC (.int 1))) aNil)))) (aIx (aVar 4) (aC (.int 1)))) (gN 3)) st Z ((cov.map dF).map .d) [some c0, some c1, some c2, some (.d (.int q)), o4, none, none, none, none] μ
  | [], q, o4, _, _, _, h => ⟨hs, h o4⟩
  | f :: cov, q, o4, h1, h2, hd, h => by
    have hf := hd f List.mem_cons_self
    have b := lcm_bd h1 hf.1
    rw [List.length_cons, Int.pow_succ] at h2
    have hp : (1 : Int) ≤ 8 ^ cov.length := by
      have := pow_mono (x := 8) (by omega) 0 cov.length
      rw [Nat.zero_add] at this; exact this
    have h3 : q * f.2 ≤ q * 8 := Int.mul_le_mul_of_nonneg_left hf.2 (by omega)
    have h4 : lcmI q f.2 * 8 ^ cov.length ≤ q * 8 * 8 ^ cov.length := Int.mul_le_mul_of_nonneg_right (by omega) (by omega)
    have h5 : q * 8 * 8 ^ cov.length = q * (8 ^ cov.length * 8) := by rw [Int.mul_assoc, Int.mul_comm 8]
    have h6 : q * 1 ≤ q * (8 ^ cov.length * 8) := Int.mul_le_mul_of_nonneg_left (by omega) (by omega)
    refine ⟨hs, ?_⟩
    have p4 : Pu (aIx (aVar 4) (aC (.int 1))) [some c0, some c1, some c2, some (.d (.int q)), some (.d (dF f)), none, none, none, none] μ (.d (.int f.2)) := pu_ixD (i := 1) (d := dF f) (l := [.int f.1, .int f.2]) (pu_var rfl) pu_c (.inr rfl) rfl
    have p3 : Pu (aVar 3) [some c0, some c1, some c2, some (.d (.int q)), some (.d (dF f)), none, none, none, none] μ (.d (.int q)) := pu_var rfl
    have pg : Pu (aCall r_L_gcd (aCons (aVar 3) (aCons (aIx (aVar 4) (aC (.int 1))) aNil))) [some c0, some c1, some c2, some (.d (.int q)), some (.d (dF f)), none, none, none, none] μ (.d (.int (Int.gcd q f.2 : Nat))) := pu_call2 p3 p4 fun er Q z => ⟨q, f.2, rfl, by omega, z⟩
    have gb := gcd_bd (a := q) (b := f.2) (by omega) (by omega)
    have pm := pu_mul (pu_div p3 pg (divOk gb)) p4 (mulR (by omega))
    rw [lcm_by_gcd h1 hf.1] at pm
    refine i_set pm ?_
    exact lcmL_loop hs cov (lcmI q f.2) _ b.1 (by omega) (fun g hg => hd g (List.mem_cons_of_mem _ hg)) h
def r_L_bound : RS := fun cs μ A er => ∃ c hd as cov ms, cs = [.d (dCat c), .d (dPat hd as), .d (dCov cov)] ∧ c.length ≤ 100 ∧ CovOk cov ∧ Ms c as ms ∧ cov.length = as.length ∧ A (.d (dF (bnd ms cov))) μ
theorem h_L_bound (cs : List Cl) (μ : Sto) (A : Cl → Sto → Prop) (er : Er) (h : r_L_bound cs μ A er) : a_L_bound r_L_gcd r_table_at (bodyD μ A er) (startE ns_L_bound cs) μ := by
  obtain ⟨c, hd, as, cov, ms, rfl, hc, ok, M, hl, h1⟩ := h
  show a_L_bound _ _ _ [some (.d (dCat c)), some (.d (dPat hd as)), some (.d (dCov cov)), none, none, none, none, none, none] μ
  refine i_sset (c := .d (.int 1)) pu_c ?_
  refine i_sfor (i_seqD (d := dCov cov) (l := cov.map dF) (pu_var rfl) (.inr rfl) ?_)
  refine lcmL_loop trivial cov 1 none (by omega) ?_ ok.den fun o4 => ?_
  · have l := ok.len
    have e := pow_mono (x := 8) (by omega) (0 + cov.length) (4 - cov.length)
    rw [show 0 + cov.length + (4 - cov.length) = 4 by omega, Nat.zero_add] at e
    have : (8 : Int) ^ 4 = 4096 := by decide
    omega
  have pl := pu_lenD (pu_var (i := 2) (c := .d (dCov cov)) (ρ := [some (.d (dCat c)), some (.d (dPat hd as)), some (.d (dCov cov)), some (.d (.int (qOf cov))), o4, some (.d (.int 1)), none, none, none]) (μ := μ) rfl) (l := cov.map dF) (.inr rfl)
  rw [List.length_map] at pl
  have go : sSeq (sAsg (aC (.int 1)) (gN 5)) (sSeq (sFor (aRg1 (aCons (aCB fLen (aCons (aVar 2) aNil)) aNil)) (gN 6) lbBody) (sRet (aTup (aCons (aVar 3) (aCons (aVar 5) aNil))))) (bodyD μ A er) [some (.d (dCat c)), some (.d (dPat hd as)), some (.d (dCov cov)), some (.d (.int (qOf cov))), o4, none, none, none, none] μ := by
    refine i_sset (c := .d (.int 1)) pu_c ?_
    refine i_sfor (i_rg1 pl (by have := ok.len; omega) ?_)
    rw [rgC0, List.range_eq_range']
    refine lb_outer hc ok M hl trivial (fun o4 o6 o7 o8 => ?_) cov.length 0 1 o4 none none none (by omega) rfl
    exact i_ret (D := bodyD μ A er) (ρ := [some (.d (dCat c)), some (.d (dPat hd as)), some (.d (dCov cov)), some (.d (.int (qOf cov))), o4, some (.d (.int (prodOf (qOf cov) ms cov 1))), o6, o7, o8]) (pu_tup2 (d1 := .int (qOf cov)) (d2 := .int (prodOf (qOf cov) ms cov 1)) (pu_var (i := 3) rfl) (pu_var (i := 5) rfl)) (.inl h1)
  exact go
/-! ### bound_of -/
def r_right_numbers : RS := fun cs μ A _ => ∃ (cov : List Frc) (m : Nat), cs = [.d (dCov cov), .d (.int (m : Nat))] ∧ cov.length ≤ 100 ∧ A (.d (.bool (decide (cov.length = m) && cov.all fun f => decide (0 ≤ f.1)))) μ
theorem h_right_numbers (cs : List Cl) (μ : Sto) (A : Cl → Sto → Prop) (er : Er) (h : r_right_numbers cs μ A er) : a_right_numbers (bodyD μ A er) (startE ns_right_numbers cs) μ := by
  obtain ⟨cov, m, rfl, hl, h⟩ := h
  show a_right_numbers _ [some (.d (dCov cov)), some (.d (.int (m : Nat))), none] μ
  have p0 : Pu (aVar 0) [some (.d (dCov cov)), some (.d (.int (m : Nat))), none] μ (.d (dCov cov)) := pu_var rfl
  have pl := pu_lenD p0 (l := cov.map dF) (.inr rfl)
  rw [List.length_map] at pl
  have pe := pu_eqI (n := false) pl (pu_var (i := 1) (c := .d (.int (m : Nat))) rfl)
  have pa : Pu (aFrz (aLc 2 [2] (aSeqI (aVar 0)) aYes (aOp (fI pGe) (aIx (aVar 2) (aC (.int 0))) (aC (.int 0))))) [some (.d (dCov cov)), some (.d (.int (m : Nat))), none] μ (.d (.list (cov.map fun f => .bool (pGe f.1 0)))) :=
    pu_lcD (g := fun f => .d (dF f)) (st := fun _ => True) (fun er Q q => i_seqD p0 (l := cov.map dF) (.inr rfl) (by rw [List.map_map]; exact q)) trivial (fun f hf => pu_I (pu_ixD (i := 0) (d := dF f) (l := [.int f.1, .int f.2]) (pu_var rfl) pu_c (.inr rfl) rfl) pu_c) (by omega)
  refine i_ret (pu_and pe fun _ => pu_all pa) ?_
  have e : decide (((cov.length : Nat) : Int) = (m : Nat)) = decide (cov.length = m) := decide_eq_decide.mpr (by omega)
  rw [neg_false, e]
  exact .inl h
/-- the cover is one that bound_of takes -/
def OkB (as : List Atom) (cov : List Frc) : Prop := cov.length = as.length ∧ (∀ f ∈ cov, 0 ≤ f.1) ∧ ∀ f ∈ cov, powOf (qOf cov) f ≤ 64
def r_bound_of (CC : Addr) : RS := fun cs μ A er => ∃ c hd as cov ms, cs = [.d (dCat c), .d (dPat hd as), .d (dCov cov)] ∧ GoodCat c ∧ GoodPat hd as ∧ Fits c as ∧ Ms c as ms ∧ cov.length ≤ 100 ∧ (cov.length = as.length → CovOk cov) ∧
  (OkB as cov → A (.d (dF (bnd ms cov))) μ) ∧ (¬ OkB as cov → er CC μ)
theorem h_bound_of (CC : Addr) (cs : List Cl) (μ : Sto) (A : Cl → Sto → Prop) (er : Er) (h : r_bound_of CC cs μ A er) : a_bound_of CC (r_bound_for CC) r_check_fit r_right_numbers (bodyD μ A er) (startE ns_bound_of cs) μ := by
  obtain ⟨c, hd, as, cov, ms, rfl, gc, gp, ft, M, hl, ok, h1, h2⟩ := h
  show a_bound_of CC _ _ _ _ [some (.d (dCat c)), some (.d (dPat hd as)), some (.d (dCov cov))] μ
  have p0 : Pu (aVar 0) [some (.d (dCat c)), some (.d (dPat hd as)), some (.d (dCov cov))] μ (.d (dCat c)) := pu_var rfl
  have p1 : Pu (aVar 1) [some (.d (dCat c)), some (.d (dPat hd as)), some (.d (dCov cov))] μ (.d (dPat hd as)) := pu_var rfl
  have p2 : Pu (aVar 2) [some (.d (dCat c)), some (.d (dPat hd as)), some (.d (dCov cov))] μ (.d (dCov cov)) := pu_var rfl
  refine i_sexp (i_call2 p0 p1 ⟨c, hd, as, rfl, gc, gp, ft, ?_⟩)
  have pl := pu_lenD (pu_ixD (i := 1) (l := [dS hd, .tuple (as.map dAtom)]) (d' := .tuple (as.map dAtom)) p1 pu_c (.inr rfl) rfl) (l := as.map dAtom) (.inr rfl)
  rw [List.length_map] at pl
  refine i_sif (put_not (put (pu_call2 (R := r_right_numbers) (c := .d (.bool (decide (cov.length = as.length) && cov.all fun f => decide (0 ≤ f.1)))) p2 pl fun er Q q => ⟨cov, as.length, rfl, hl, q⟩))) (fun hk => ?_) (fun hk => ?_)
  · refine .inl (h2 fun z => ?_)
    have e : (cov.all fun f => decide (0 ≤ f.1)) = true := List.all_eq_true.mpr fun f hf => decide_eq_true (z.2.1 f hf)
    rw [decide_eq_true z.1, e] at hk
    cases hk
  · have hk' : (decide (cov.length = as.length) && cov.all fun f => decide (0 ≤ f.1)) = true := by simpa using hk
    rw [Bool.and_eq_true] at hk'
    have e1 := of_decide_eq_true hk'.1
    have e2 : ∀ f ∈ cov, 0 ≤ f.1 := fun f hf => of_decide_eq_true (List.all_eq_true.mp hk'.2 f hf)
    refine i_call3 (R := r_bound_for CC) (er := (bodyD μ A er).er) p0 p1 p2 ⟨c, hd, as, cov, ms, rfl, by have := gc.len; omega, ok e1, M, e1, fun z => .inl (h1 ⟨e1, e2, z⟩), fun ⟨f, hf, z⟩ => .inl (h2 fun y => ?_)⟩
    have := y.2.2 f hf
    omega
end Jh

set_option Elab.async false
set_option linter.all false
set_option maxRecDepth 100000
set_option maxHeartbeats 4000000
namespace Jh
open PySem PySem.Spec PyProof.Rows L2
/-! ### the program's covers are taken -/
theorem q_dvd {M : Int} : ∀ (cov : List Frc) (q : Int), q ∣ M → (∀ f ∈ cov, f.2 ∣ M) → cov.foldl (fun q f => lcmI q f.2) q ∣ M
  | [], q, h, _ => h
  | f :: cov, q, h, hf => by
    refine q_dvd cov (lcmI q f.2) ?_ fun g hg => hf g (List.mem_cons_of_mem _ hg)
    have h1 := Int.natAbs_dvd_natAbs.mpr h
    have h2 := Int.natAbs_dvd_natAbs.mpr (hf f List.mem_cons_self)
    unfold lcmI
    exact Int.natAbs_dvd_natAbs.mp (by rw [Int.natAbs_natCast]; exact Nat.lcm_dvd h1 h2)
theorem qOf_le {M : Int} {cov : List Frc} (hM : 0 < M) (h : ∀ f ∈ cov, f.2 ∣ M) : qOf cov ≤ M := Int.le_of_dvd hM (q_dvd cov 1 (Int.one_dvd M) h)
theorem pow_le {q : Int} {f : Frc} {B : Int} (hq : 1 ≤ q) (hd : 1 ≤ f.2) (h0 : 0 ≤ f.1) (h : q * f.1 ≤ B) : powOf q f ≤ B := by
  have b := div_bd hq hd
  unfold powOf
  have := Int.mul_le_mul_of_nonneg_right b.2 h0
  omega
abbrev frs (D : Int) (cv : List Int) : List Frc := cv.map fun c => fr c D
theorem dFs_cov (D : Int) (cv : List Int) : PyData.tuple (dFs D cv) = dCov (frs D cv) := by
  unfold dCov frs dFs
  rw [List.map_map]; rfl
theorem lp_cov {as : List Atom} {ch : List Str} {D : Int} {cv pk : List Int} (g : LPGood (setsOf as ch) ch.length D cv pk) (h4 : as.length ≤ 4) : CovOk (frs D cv) ∧ (frs D cv).length = as.length ∧ ∀ f ∈ frs D cv, powOf (qOf (frs D cv)) f ≤ 64 := by
  have D1 := g.D1
  have D8 := g.D8
  have l : (frs D cv).length = as.length := by
    have := g.lc
    unfold setsOf at this
    rw [List.length_map] at this
    rw [List.length_map]; exact this
  have bd : ∀ f ∈ frs D cv, (1 ≤ f.2 ∧ f.2 ≤ 8) ∧ (0 ≤ f.1 ∧ f.1 ≤ 8) ∧ f.2 ∣ D := fun f hf => by
    obtain ⟨c, hc, rfl⟩ := List.mem_map.mp hf
    have c0 := g.c0 c hc
    have b := fr_bd (a := c) (D := D) c0.1 (by omega)
    obtain ⟨z, hz, e1, e2, _⟩ := fr_spec (a := c) (D := D) (by omega)
    exact ⟨⟨by omega, by omega⟩, ⟨by omega, by omega⟩, ⟨z, e2.symm⟩⟩
  have ok : CovOk (frs D cv) := ⟨by omega, fun f hf => (bd f hf).1, fun f hf => by have := (bd f hf).2.1; omega⟩
  refine ⟨ok, l, fun f hf => ?_⟩
  have q1 := (qOf_bd ok).1
  have q8 : qOf (frs D cv) ≤ D := qOf_le (by omega) fun f hf => (bd f hf).2.2
  have b := bd f hf
  have m : qOf (frs D cv) * f.1 ≤ 8 * 8 := Int.mul_le_mul (by omega) b.2.1.2 b.2.1.1 (by omega)
  exact pow_le q1 b.1.1 b.2.1.1 (by omega)
/-! ### bounds_along -/
abbrev Res := Int × List Int × List Int
abbrev dRes (ms : List Nat) (r : Res) : PyData := .tuple [.tuple (dFs r.1 r.2.1), .tuple (dFs r.1 r.2.2), dF (bnd ms (frs r.1 r.2.1))]
def ResOk (as : List Atom) (ord : List Str) (k : Nat) (r : Res) : Prop := LPGood (setsOf as (ord.take (k + 1))) (ord.take (k + 1)).length r.1 r.2.1 r.2.2
def r_bounds_along (CO : Addr) : RS := fun cs μ A er => ∃ c hd as ord ms, cs = [.d (dCat c), .d (dPat hd as), .d (dS ord)] ∧ GoodCat c ∧ GoodPat hd as ∧ Fits c as ∧ Ms c as ms ∧ as.length ≤ 4 ∧ ord.length ≤ 100 ∧ (sS ord ≠ sS (varsOf as) → er CO μ) ∧
  (sS ord = sS (varsOf as) → ord.length ≤ 4 ∧ (∀ v ∈ ord, ∃ a ∈ as, v ∈ a.2) ∧ ∀ L : List Res, L.length = ord.length → (∀ k r, L[k]? = some r → ResOk as ord k r) → A (.d (.tuple (L.map (dRes ms)))) μ)
theorem i_sg2N {e : AX} {ρ : En} {μ : Sto} {D : AD} {u : ASt} {i j : Nat} (h : e D.er ρ μ fun c μ1 => gTu 2 (gsCons (gN i) (gsCons (gN j) gsNil)) c ρ μ1 fun ρ' μ' => u D ρ' μ') : sSeq (sAsg e (gTu 2 (gsCons (gN i) (gsCons (gN j) gsNil)))) u D ρ μ := h
theorem ba_loop {CC : Addr} {c : List Tb} {hd : List Str} {as : List Atom} {ord : List Str} {ms : List Nat} {f : Nat} {μ0 : Sto} {st : Sto → Prop} {Z : AD} (gc : c.length ≤ 100) (M : Ms c as ms) (h1 : 1 ≤ as.length) (h4 : as.length ≤ 4) (o4' : ord.length ≤ 4) (hv : ∀ v ∈ ord, ∃ a ∈ as, v ∈ a.2) (hs : ∀ μ, st μ)
    (hZ : ∀ (L : List Res) μ' o4 o5 o6, L.length = ord.length → (∀ k r, L[k]? = some r → ResOk as ord k r) → Fr f μ0 μ' → μ'[f]? = some (.lst (L.map fun r => .d (dRes ms r))) → Z.nx [some (.d (dCat c)), some (.d (dPat hd as)), some (.d (dS ord)), some (.m f), o4, o5, o6] μ') :
    ∀ (q i : Nat) (L : List Res) (μ : Sto) (o4 o5 o6 : Option Cl), i + q = ord.length → L.length = i → (∀ k r, L[k]? = some r → ResOk as ord k r) → Fr f μ0 μ → μ[f]? = some (.lst (L.map fun r => .d (dRes ms r))) →
      forL (gN 4) (sSeq (sAsg (aCall r_best_for (aCons (aVar 1) (aCons (aSlT (aVar 2) aNoP (aSomeP (aVar 4))) aNil))) (gTu 2 (gsCons (gN 5) (gsCons (gN 6) gsNil))))
    (sApp (aVar 3) (aTup (aCons (aVar 5) (aCons (aVar 6) (aCons (aCall (r_bound_for CC) (aCons (aVar 0) (aCons (aVar 1) (aCons (aVar 5) aNil)))) aNil)))))) st Z ((List.range' i q).map fun i => Cl.d (.int (1 + (i : Nat))))
        [some (.d (dCat c)), some (.d (dPat hd as)), some (.d (dS ord)), some (.m f), o4, o5, o6] μ
  | 0, i, L, μ, o4, o5, o6, e, hl, hL, hfr, hF => ⟨hs μ, hZ L μ o4 o5 o6 (by omega) hL hfr hF⟩
  | q + 1, i, L, μ, o4, o5, o6, e, hl, hL, hfr, hF => by
    rw [List.range'_succ]
    refine ⟨hs μ, ?_⟩
    have e1 : (1 + (i : Int)) = ((i + 1 : Nat) : Int) := by omega
    have p1 : Pu (aVar 1) [some (.d (dCat c)), some (.d (dPat hd as)), some (.d (dS ord)), some (.m f), some (.d (.int (1 + (i : Nat)))), o5, o6] μ (.d (dPat hd as)) := pu_var rfl
    have p2 : Pu (aVar 2) [some (.d (dCat c)), some (.d (dPat hd as)), some (.d (dS ord)), some (.m f), some (.d (.int (1 + (i : Nat)))), o5, o6] μ (.d (dS ord)) := pu_var rfl
    have p4 : Pu (aVar 4) [some (.d (dCat c)), some (.d (dPat hd as)), some (.d (dS ord)), some (.m f), some (.d (.int (1 + (i : Nat)))), o5, o6] μ (.d (.int ((i + 1 : Nat) : Int))) := by rw [← e1]; exact pu_var rfl
    have ps := pu_slTo p2 p4
    rw [← List.map_take] at ps
    refine i_sg2N (i_call2 (R := r_best_for) p1 ps ⟨hd, as, ord.take (i + 1), rfl, h1, h4, by rw [List.length_take]; omega, by rw [List.length_take]; omega, fun v hvm => hv v (List.mem_of_mem_take hvm), fun D cv pk g => i_g2N ?_⟩)
    obtain ⟨ok, lc, pw⟩ := lp_cov g h4
    have q0 : Pu (aVar 0) [some (.d (dCat c)), some (.d (dPat hd as)), some (.d (dS ord)), some (.m f), some (.d (.int (1 + (i : Nat)))), some (.d (.tuple (dFs D cv))), some (.d (.tuple (dFs D pk)))] μ (.d (dCat c)) := pu_var rfl
    have q1 : Pu (aVar 1) [some (.d (dCat c)), some (.d (dPat hd as)), some (.d (dS ord)), some (.m f), some (.d (.int (1 + (i : Nat)))), some (.d (.tuple (dFs D cv))), some (.d (.tuple (dFs D pk)))] μ (.d (dPat hd as)) := pu_var rfl
    have q5 : Pu (aVar 5) [some (.d (dCat c)), some (.d (dPat hd as)), some (.d (dS ord)), some (.m f), some (.d (.int (1 + (i : Nat)))), some (.d (.tuple (dFs D cv))), some (.d (.tuple (dFs D pk)))] μ (.d (dCov (frs D cv))) := by rw [← dFs_cov]; exact pu_var rfl
    have qb : Pu (aCall (r_bound_for CC) (aCons (aVar 0) (aCons (aVar 1) (aCons (aVar 5) aNil)))) [some (.d (dCat c)), some (.d (dPat hd as)), some (.d (dS ord)), some (.m f), some (.d (.int (1 + (i : Nat)))), some (.d (.tuple (dFs D cv))), some (.d (.tuple (dFs D pk)))] μ (.d (dF (bnd ms (frs D cv)))) :=
      pu_call3 q0 q1 q5 fun er Q z => ⟨c, hd, as, frs D cv, ms, rfl, gc, ok, M, lc, fun _ => z, fun ⟨f, hf, y⟩ => by have := pw f hf; omega⟩
    refine i_appP (c := .d (dRes ms (D, cv, pk))) (pu_var (i := 3) (c := .m f) rfl) hF (pu_tup3 (d1 := .tuple (dFs D cv)) (d2 := .tuple (dFs D pk)) (pu_var rfl) (pu_var rfl) qb) (by rw [List.length_map]; omega) ?_
    refine ba_loop gc M h1 h4 o4' hv hs hZ q (i + 1) (L ++ [(D, cv, pk)]) _ _ _ _ (by omega) (by simp; omega) (fun k r hr => ?_) (hfr.set (Nat.le_refl _)) (by rw [at_same hF]; simp)
    by_cases hk : k < L.length
    · rw [List.getElem?_append_left hk] at hr; exact hL k r hr
    · have hk' : k = L.length := by
        have := (List.getElem?_eq_some_iff.mp hr).1
        simp at this; omega
      subst hk'
      simp at hr
      subst hr
      rw [hl]
      exact g
theorem h_bounds_along (CC CO : Addr) (cs : List Cl) (μ : Sto) (A : Cl → Sto → Prop) (er : Er) (h : r_bounds_along CO cs μ A er) : a_bounds_along r_best_for (r_bound_for CC) r_check_fit (r_check_order CO) (bodyD μ A er) (startE ns_bounds_along cs) μ := by
  obtain ⟨c, hd, as, ord, ms, rfl, gc, gp, ft, M, h4, ho, h2, h3⟩ := h
  show a_bounds_along _ _ _ _ _ [some (.d (dCat c)), some (.d (dPat hd as)), some (.d (dS ord)), none, none, none, none] μ
  have p0 : Pu (aVar 0) [some (.d (dCat c)), some (.d (dPat hd as)), some (.d (dS ord)), none, none, none, none] μ (.d (dCat c)) := pu_var rfl
  have p1 : Pu (aVar 1) [some (.d (dCat c)), some (.d (dPat hd as)), some (.d (dS ord)), none, none, none, none] μ (.d (dPat hd as)) := pu_var rfl
  have p2 : Pu (aVar 2) [some (.d (dCat c)), some (.d (dPat hd as)), some (.d (dS ord)), none, none, none, none] μ (.d (dS ord)) := pu_var rfl
  refine i_sexp (i_call2 p0 p1 ⟨c, hd, as, rfl, gc, gp, ft, ?_⟩)
  refine i_sexp (i_call2 p1 p2 ⟨hd, as, ord, rfl, gp.len, by omega, fun e => ?_, fun e => .inl (h2 e)⟩)
  obtain ⟨o4, hv, h⟩ := h3 e
  refine i_sasgN (a := aOwn (aLst aNil)) (And.intro (Nat.le_of_ble_eq_true rfl) ?_)
  have q2 : Pu (aVar 2) [some (.d (dCat c)), some (.d (dPat hd as)), some (.d (dS ord)), some (.m μ.length), none, none, none] (μ ++ [.lst []]) (.d (dS ord)) := pu_var rfl
  have ql := pu_lenD q2 (l := ord.map PyData.str) (.inr rfl)
  rw [List.length_map] at ql
  refine i_sfor (i_rg2 (k := ord.length) (pu_c (d := .int 1)) (pu_add ql (pu_c (d := .int 1))) (by omega) (by omega) (by omega) ?_)
  have e1 : rgC 1 ord.length = (List.range' 0 ord.length).map fun i => Cl.d (.int (1 + (i : Nat))) := by
    unfold rgC
    rw [List.range_eq_range']
  rw [e1]
  refine ba_loop (μ0 := μ) (by have := gc.len; omega) M gp.at_.n1 h4 o4 hv (fun _ => trivial) (fun L μ' o4 o5 o6 l1 l2 hfr hF => ?_) ord.length 0 [] _ none none none (by omega) rfl (fun k r hr => by simp at hr) ((Fr.refl (Nat.le_refl _)).app) at_new
  exact i_ret (D := bodyD μ A er) (ρ := [some (.d (dCat c)), some (.d (dPat hd as)), some (.d (dS ord)), some (.m μ.length), o4, o5, o6]) (pu_tupC (pu_var (i := 3) rfl) (cells_m hF) (ds := L.map (dRes ms)) (by rw [List.map_map]; rfl)) (fin_fr hfr (h L l1 l2))
end Jh

set_option Elab.async false
set_option linter.all false
set_option maxRecDepth 100000
set_option maxHeartbeats 4000000
namespace Jh
open PySem PySem.Spec PyProof.Rows L2
/-! ### chosen sums -/
def selI (p : Nat → Bool) (l : List Int) : List Int := ((List.range l.length).filter p).map fun k => l.getD k 0
theorem selI_cons (p : Nat → Bool) (x : Int) (l : List Int) : selI p (x :: l) = (if p 0 then [x] else []) ++ selI (fun k => p (k + 1)) l := by
  unfold selI
  rw [List.length_cons, List.range_succ_eq_map, List.filter_cons]
  have e : (((List.range l.length).map Nat.succ).filter p).map (fun k => (x :: l).getD k 0) = ((List.range l.length).filter fun k => p (k + 1)).map fun k => l.getD k 0 := by
    rw [List.filter_map, List.map_map]
    apply List.map_congr_left
    intro k _
    simp
  by_cases h : p 0 = true
  · rw [if_pos h, if_pos h, List.map_cons, e]; simp
  · rw [if_neg h, if_neg h, e]; simp
theorem selI_mem {p : Nat → Bool} {l : List Int} {x : Int} (h : x ∈ selI p l) : x ∈ l := by
  unfold selI at h
  obtain ⟨k, hk, rfl⟩ := List.mem_map.mp h
  have := List.mem_range.mp (List.mem_filter.mp hk).1
  exact List.mem_of_getElem? (iat this)
theorem selI_len (p : Nat → Bool) (l : List Int) : (selI p l).length ≤ l.length := by
  unfold selI
  rw [List.length_map]
  exact Nat.le_trans (List.length_filter_le _ _) (by simp)
theorem dot_sel : ∀ (l : List Int) (p : Nat → Bool), LP.dot ((List.range l.length).map p) l = isum (selI p l)
  | [], p => rfl
  | x :: l, p => by
    rw [selI_cons, List.length_cons, List.range_succ_eq_map, List.map_cons, List.map_map]
    have ih := dot_sel l (fun k => p (k + 1))
    have e : (p ∘ Nat.succ) = fun k => p (k + 1) := rfl
    rw [e]
    cases h : p 0 with
    | true =>
      show x + LP.dot _ l = isum ([x] ++ selI _ l)
      rw [ih]; rfl
    | false =>
      show LP.dot _ l = isum ([] ++ selI _ l)
      rw [ih]; rfl
theorem pack_sel (a : Nat) : ∀ (mks : List LP.Mask) (l : List Int), mks.length = l.length → LP.packAt a mks l = isum (selI (fun k => (mks.getD k []).getD a false) l)
  | [], [], _ => rfl
  | mk :: mks, x :: l, h => by
    have ih := pack_sel a mks l (by simpa using h)
    rw [selI_cons]
    show (if mk.getD a false then x else 0) + LP.packAt a mks l = isum ((if ((mk :: mks).getD 0 []).getD a false then [x] else []) ++ selI (fun k => ((mk :: mks).getD (k + 1) []).getD a false) l)
    have e : (fun k => ((mk :: mks).getD (k + 1) []).getD a false) = fun k => (mks.getD k []).getD a false := by
      funext k; simp
    rw [e, ih]
    have e0 : ((mk :: mks).getD 0 []).getD a false = mk.getD a false := by simp
    rw [e0]
    cases mk.getD a false with
    | true => rfl
    | false => simp
theorem fr_ge {s D : Int} (hD : 0 < D) (h : D ≤ s) : ¬ (fr s D).1 * 1 < 1 * (fr s D).2 := by
  obtain ⟨g, hg, e1, e2, _⟩ := fr_spec (a := s) hD
  intro z
  have z' : (fr s D).1 < (fr s D).2 := by omega
  have := Int.mul_lt_mul_of_pos_right z' hg
  omega
theorem fr_le {s D : Int} (hD : 0 < D) (h : s ≤ D) : ¬ 1 * (fr s D).2 < (fr s D).1 * 1 := by
  obtain ⟨g, hg, e1, e2, _⟩ := fr_spec (a := s) hD
  intro z
  have z' : (fr s D).2 < (fr s D).1 := by omega
  have := Int.mul_lt_mul_of_pos_right z' hg
  omega
theorem isum_bd : ∀ (l : List Int), (∀ a ∈ l, 0 ≤ a ∧ a ≤ 100) → 0 ≤ isum l ∧ isum l ≤ 100 * l.length
  | [], _ => ⟨Int.le_refl 0, Int.le_refl 0⟩
  | x :: l, h => by
    have h1 := h x List.mem_cons_self
    have h2 := isum_bd l fun a ha => h a (List.mem_cons_of_mem _ ha)
    rw [isum, List.length_cons]
    omega
theorem any_neg (D : Int) (hD : 1 ≤ D) (l : List Int) (h : ∀ x ∈ l, 0 ≤ x) : (l.any fun c => decide ((fr c D).1 < 0)) = false := by
  rw [List.any_eq_false]
  intro c hc
  have := (fr_bd (a := c) (D := D) (h c hc) (by omega)).1
  simp
  exact this
/-! ### _law_covers -/
def pcov (as : List Atom) (v : Str) (k : Nat) : Bool := match as[k]? with
  | some a => decide (v ∈ a.2)
  | none => false
structure CvOk (D : Int) (n : Nat) (cv : List Int) : Prop where
  D1 : 1 ≤ D
  D8 : D ≤ 8
  len : cv.length = n
  n8 : n ≤ 8
  b : ∀ x ∈ cv, 0 ≤ x ∧ x ≤ 100
def r_L_covers : RS := fun cs μ A _ => ∃ (hd : List Str) (as : List Atom) (ch : List Str) (D : Int) (cv : List Int), cs = [.d (dPat hd as), .d (dS ch), .d (.tuple (dFs D cv))] ∧ CvOk D as.length cv ∧ (∀ v ∈ ch, D ≤ isum (selI (pcov as v) cv)) ∧ A (.d (.bool true)) μ
theorem cov_loop {c0 c1 : Cl} {as : List Atom} {D : Int} {cv : List Int} {μ : Sto} {st : Sto → Prop} {Z : AD} (ok : CvOk D as.length cv) (hs : st μ) (hZ : ∀ o4, Z.nx [some c0, some c1, some (.d (.tuple (dFs D cv))), some (.d (.tuple (as.map dAtom))), o4, none, none] μ) : ∀ (ch : List Str) (o4 : Option Cl), (∀ v ∈ ch, D ≤ isum (selI (pcov as v) cv)) →
    forL (gN 4) (sIf (aTest (aCall r_L_less (aCons (aCall r_L_sum (aCons (aFrz (aLc 6 [6] (aRg1 (aCons (aCB fLen (aCons (aVar 3) aNil)) aNil)) (aTest (aOp (fIn false) (aVar 4) (aIx (aIx (aVar 3) (aVar 6)) (aC (.int 1))))) (aIx (aVar 2) (aVar 6)))) aNil)) (aCons (aTup (aCons (aC (.int 1)) (aCons (aC (.int 1)) aNil))) aNil)))) (sRet (aC (.bool false))) sNext) st Z ((ch.map PyData.str).map .d)
      [some c0, some c1, some (.d (.tuple (dFs D cv))), some (.d (.tuple (as.map dAtom))), o4, none, none] μ
  | [], o4, _ => ⟨hs, hZ o4⟩
  | v :: ch, o4, hv => by
    refine ⟨hs, ?_⟩
    have n8 := ok.n8
    have len := ok.len
    have hD := ok.D1
    have p3 : Pu (aVar 3) [some c0, some c1, some (.d (.tuple (dFs D cv))), some (.d (.tuple (as.map dAtom))), some (.d (.str v)), none, none] μ (.d (.tuple (as.map dAtom))) := pu_var rfl
    have pl := pu_lenD p3 (l := as.map dAtom) (.inr rfl)
    rw [List.length_map] at pl
    have ps : Pu (aFrz (aLc 6 [6] (aRg1 (aCons (aCB fLen (aCons (aVar 3) aNil)) aNil)) (aTest (aOp (fIn false) (aVar 4) (aIx (aIx (aVar 3) (aVar 6)) (aC (.int 1))))) (aIx (aVar 2) (aVar 6)))) [some c0, some c1, some (.d (.tuple (dFs D cv))), some (.d (.tuple (as.map dAtom))), some (.d (.str v)), none, none] μ (.d (.list ((selI (pcov as v) cv).map fun a => dF (fr a D)))) := by
      refine pu_lc (cs := ((selI (pcov as v) cv).map fun a => dF (fr a D)).map .d) (fun er Q q => i_rg1 pl (by omega) q) (fun Q q => ?_) rfl
      refine lcL_rg (pcov as v) (fun k => .d (dF (fr (cv.getD k 0) D))) trivial (by omega) (fun i hi => ?_) (fun i hi _ => ?_) ?_
      · have ga : as[i]? = some as[i] := List.getElem?_eq_getElem hi
        have r3 : Pu (aVar 3) [some c0, some c1, some (.d (.tuple (dFs D cv))), some (.d (.tuple (as.map dAtom))), some (.d (.str v)), none, some (.d (.int (i : Nat)))] μ (.d (.tuple (as.map dAtom))) := pu_var rfl
        have r6 : Pu (aVar 6) [some c0, some c1, some (.d (.tuple (dFs D cv))), some (.d (.tuple (as.map dAtom))), some (.d (.str v)), none, some (.d (.int (i : Nat)))] μ (.d (.int (i : Nat))) := pu_var rfl
        have r4 : Pu (aVar 4) [some c0, some c1, some (.d (.tuple (dFs D cv))), some (.d (.tuple (as.map dAtom))), some (.d (.str v)), none, some (.d (.int (i : Nat)))] μ (.d (.str v)) := pu_var rfl
        have e := pu_inD (n := false) r4 (pu_ixD (i := 1) (l := [.str as[i].1, dS as[i].2]) (d' := dS as[i].2) (pu_ixD r3 r6 (l := as.map dAtom) (d' := dAtom as[i]) (.inr rfl) (by rw [List.getElem?_map, ga]; rfl)) pu_c (.inr rfl) rfl) (l := as[i].2.map PyData.str) (.inr rfl) (Nat.le_of_ble_eq_true rfl)
        rw [inD_str, neg_false] at e
        have e2 : pcov as v i = decide (v ∈ as[i].2) := by unfold pcov; rw [ga]
        rw [e2]
        exact put e
      · exact pu_ixD (i := i) (d := .tuple (dFs D cv)) (l := dFs D cv) (pu_var rfl) (pu_var rfl) (.inr rfl) (by rw [List.getElem?_map, iat (l := cv) (k := i) (by omega)]; rfl)
      · have e : (((List.range as.length).filter (pcov as v)).map fun k => Cl.d (dF (fr (cv.getD k 0) D))) = ((selI (pcov as v) cv).map fun a => dF (fr a D)).map .d := by
          unfold selI; rw [List.map_map, List.map_map, len]; rfl
        rw [e]; exact q
    have bs : ∀ a ∈ selI (pcov as v) cv, 0 ≤ a ∧ a ≤ 100 := fun a ha => ok.b a (selI_mem ha)
    have sl := selI_len (pcov as v) cv
    have sb := isum_bd _ bs
    have pe : Pu (aCall r_L_sum (aCons (aFrz (aLc 6 [6] (aRg1 (aCons (aCB fLen (aCons (aVar 3) aNil)) aNil)) (aTest (aOp (fIn false) (aVar 4) (aIx (aIx (aVar 3) (aVar 6)) (aC (.int 1))))) (aIx (aVar 2) (aVar 6)))) aNil)) [some c0, some c1, some (.d (.tuple (dFs D cv))), some (.d (.tuple (as.map dAtom))), some (.d (.str v)), none, none] μ (.d (dF (fr (isum (selI (pcov as v) cv)) D))) :=
      pu_call1 ps fun er Q q => ⟨_, D, selI (pcov as v) cv, rfl, .inl rfl, ok.D1, ok.D8, bs, by omega, q⟩
    have fb := fr_bd (a := isum (selI (pcov as v) cv)) (D := D) sb.1 (by omega)
    have pf := pu_call2 (R := r_L_less) pe (pu_tup2 (d1 := .int 1) (d2 := .int 1) pu_c pu_c) (c := .d (.bool (decide ((fr (isum (selI (pcov as v) cv)) D).1 * 1 < 1 * (fr (isum (selI (pcov as v) cv)) D).2)))) fun er Q q => ⟨fr (isum (selI (pcov as v) cv)) D, (1, 1), rfl, by omega, by decide, q⟩
    rw [decide_eq_false (fr_ge (by omega) (hv v List.mem_cons_self))] at pf
    exact i_if (put pf) (fun hk => by cases hk) fun _ => cov_loop ok hs hZ ch _ fun u hu => hv u (List.mem_cons_of_mem _ hu)
theorem h_L_covers (cs : List Cl) (μ : Sto) (A : Cl → Sto → Prop) (er : Er) (h : r_L_covers cs μ A er) : a_L_covers r_L_less r_L_sum (bodyD μ A er) (startE ns_L_covers cs) μ := by
  obtain ⟨hd, as, ch, D, cv, rfl, ok, hv, h⟩ := h
  show a_L_covers _ _ _ [some (.d (dPat hd as)), some (.d (dS ch)), some (.d (.tuple (dFs D cv))), none, none, none, none] μ
  have len := ok.len
  have n8 := ok.n8
  refine i_sset (c := .d (.tuple (as.map dAtom))) (pu_ixD (i := 1) (d := dPat hd as) (l := [dS hd, .tuple (as.map dAtom)]) (pu_var rfl) pu_c (.inr rfl) rfl) ?_
  have p2 : Pu (aVar 2) [some (.d (dPat hd as)), some (.d (dS ch)), some (.d (.tuple (dFs D cv))), some (.d (.tuple (as.map dAtom))), none, none, none] μ (.d (.tuple (dFs D cv))) := pu_var rfl
  have p3 : Pu (aVar 3) [some (.d (dPat hd as)), some (.d (dS ch)), some (.d (.tuple (dFs D cv))), some (.d (.tuple (as.map dAtom))), none, none, none] μ (.d (.tuple (as.map dAtom))) := pu_var rfl
  have l2 := pu_lenD p2 (l := dFs D cv) (.inr rfl)
  have l3 := pu_lenD p3 (l := as.map dAtom) (.inr rfl)
  rw [List.length_map] at l2 l3
  have pm : Pu (aFrz (aLc 5 [5] (aSeqI (aVar 2)) aYes (aOp fLt (aIx (aVar 5) (aC (.int 0))) (aC (.int 0))))) [some (.d (dPat hd as)), some (.d (dS ch)), some (.d (.tuple (dFs D cv))), some (.d (.tuple (as.map dAtom))), none, none, none] μ (.d (.list (cv.map fun c => .bool (decide ((fr c D).1 < 0))))) :=
    pu_lcD (g := fun c => .d (dF (fr c D))) (st := fun _ => True) (fun er Q q => i_seqD p2 (l := dFs D cv) (.inr rfl) (by rw [List.map_map]; exact q)) trivial (fun c hc => pu_lt (pu_ixD (i := 0) (d := dF (fr c D)) (l := [.int (fr c D).1, .int (fr c D).2]) (pu_var rfl) pu_c (.inr rfl) rfl) pu_c) (by omega)
  refine i_sifN (put_or (put (pu_eqI (n := true) l2 l3)) fun _ => put (pu_any pm)) (fun hk => ?_) (fun _ => ?_)
  · rw [any_neg D ok.D1 cv fun x hx => (ok.b x hx).1, len, decide_eq_true rfl] at hk
    cases hk
  · refine i_sfor (i_seqD (d := dS ch) (l := ch.map PyData.str) (pu_var rfl) (.inr rfl) ?_)
    refine cov_loop ok trivial (fun o4 => ?_) ch none hv
    exact i_ret (D := bodyD μ A er) (ρ := [some (.d (dPat hd as)), some (.d (dS ch)), some (.d (.tuple (dFs D cv))), some (.d (.tuple (as.map dAtom))), o4, none, none]) pu_c (.inl h)
/-! ### _law_packs -/
def ppak (ch : List Str) (a : Atom) (k : Nat) : Bool := decide (ch.getD k "" ∈ a.2)
def r_L_packs : RS := fun cs μ A _ => ∃ (hd : List Str) (as : List Atom) (ch : List Str) (D : Int) (pk : List Int), cs = [.d (dPat hd as), .d (dS ch), .d (.tuple (dFs D pk))] ∧ CvOk D ch.length pk ∧ (∀ a ∈ as, isum (selI (ppak ch a) pk) ≤ D) ∧ A (.d (.bool true)) μ
theorem pak_loop {c0 : Cl} {ch : List Str} {D : Int} {pk : List Int} {μ : Sto} {st : Sto → Prop} {Z : AD} (ok : CvOk D ch.length pk) (hs : st μ) (hZ : ∀ o3 o4, Z.nx [some c0, some (.d (dS ch)), some (.d (.tuple (dFs D pk))), o3, o4, none, none] μ) : ∀ (as : List Atom) (o3 o4 : Option Cl), (∀ a ∈ as, isum (selI (ppak ch a) pk) ≤ D) →
    forL (gTu 2 (gsCons (gN 3) (gsCons (gN 4) gsNil))) (sIf (aTest (aCall r_L_less (aCons (aTup (aCons (aC (.int 1)) (aCons (aC (.int 1)) aNil))) (aCons (aCall r_L_sum (aCons (aFrz (aLc 6 [6] (aRg1 (aCons (aCB fLen (aCons (aVar 1) aNil)) aNil)) (aTest (aOp (fIn false) (aIx (aVar 1) (aVar 6)) (aVar 4))) (aIx (aVar 2) (aVar 6)))) aNil)) aNil)))) (sRet (aC (.bool false))) sNext) st Z ((as.map dAtom).map .d)
      [some c0, some (.d (dS ch)), some (.d (.tuple (dFs D pk))), o3, o4, none, none] μ
  | [], o3, o4, _ => ⟨hs, hZ o3 o4⟩
  | a :: as, o3, o4, hv => by
    refine ⟨hs, i_g2N ?_⟩
    have n8 := ok.n8
    have len := ok.len
    have hD := ok.D1
    have p1 : Pu (aVar 1) [some c0, some (.d (dS ch)), some (.d (.tuple (dFs D pk))), some (.d (.str a.1)), some (.d (dS a.2)), none, none] μ (.d (dS ch)) := pu_var rfl
    have pl := pu_lenD p1 (l := ch.map PyData.str) (.inr rfl)
    rw [List.length_map] at pl
    have ps : Pu (aFrz (aLc 6 [6] (aRg1 (aCons (aCB fLen (aCons (aVar 1) aNil)) aNil)) (aTest (aOp (fIn false) (aIx (aVar 1) (aVar 6)) (aVar 4))) (aIx (aVar 2) (aVar 6)))) [some c0, some (.d (dS ch)), some (.d (.tuple (dFs D pk))), some (.d (.str a.1)), some (.d (dS a.2)), none, none] μ (.d (.list ((selI (ppak ch a) pk).map fun a => dF (fr a D)))) := by
      refine pu_lc (cs := ((selI (ppak ch a) pk).map fun a => dF (fr a D)).map .d) (fun er Q q => i_rg1 pl (by omega) q) (fun Q q => ?_) rfl
      refine lcL_rg (ppak ch a) (fun k => .d (dF (fr (pk.getD k 0) D))) trivial (by omega) (fun i hi => ?_) (fun i hi _ => ?_) ?_
      · have g : ch[i]? = some (ch.getD i "") := by rw [List.getD_eq_getElem?_getD, List.getElem?_eq_getElem hi]; rfl
        have r1 : Pu (aVar 1) [some c0, some (.d (dS ch)), some (.d (.tuple (dFs D pk))), some (.d (.str a.1)), some (.d (dS a.2)), none, some (.d (.int (i : Nat)))] μ (.d (dS ch)) := pu_var rfl
        have r6 : Pu (aVar 6) [some c0, some (.d (dS ch)), some (.d (.tuple (dFs D pk))), some (.d (.str a.1)), some (.d (dS a.2)), none, some (.d (.int (i : Nat)))] μ (.d (.int (i : Nat))) := pu_var rfl
        have r4 : Pu (aVar 4) [some c0, some (.d (dS ch)), some (.d (.tuple (dFs D pk))), some (.d (.str a.1)), some (.d (dS a.2)), none, some (.d (.int (i : Nat)))] μ (.d (dS a.2)) := pu_var rfl
        have e := pu_inD (n := false) (pu_ixD r1 r6 (l := ch.map PyData.str) (d' := .str (ch.getD i "")) (.inr rfl) (by rw [List.getElem?_map, g]; rfl)) r4 (l := a.2.map PyData.str) (.inr rfl) (Nat.le_of_ble_eq_true rfl)
        rw [inD_str, neg_false] at e
        exact put e
      · exact pu_ixD (i := i) (d := .tuple (dFs D pk)) (l := dFs D pk) (pu_var rfl) (pu_var rfl) (.inr rfl) (by rw [List.getElem?_map, iat (l := pk) (k := i) (by omega)]; rfl)
      · have e : (((List.range ch.length).filter (ppak ch a)).map fun k => Cl.d (dF (fr (pk.getD k 0) D))) = ((selI (ppak ch a) pk).map fun a => dF (fr a D)).map .d := by
          unfold selI; rw [List.map_map, List.map_map, len]; rfl
        rw [e]; exact q
    have bs : ∀ x ∈ selI (ppak ch a) pk, 0 ≤ x ∧ x ≤ 100 := fun x hx => ok.b x (selI_mem hx)
    have sl := selI_len (ppak ch a) pk
    have sb := isum_bd _ bs
    have pe : Pu (aCall r_L_sum (aCons (aFrz (aLc 6 [6] (aRg1 (aCons (aCB fLen (aCons (aVar 1) aNil)) aNil)) (aTest (aOp (fIn false) (aIx (aVar 1) (aVar 6)) (aVar 4))) (aIx (aVar 2) (aVar 6)))) aNil)) [some c0, some (.d (dS ch)), some (.d (.tuple (dFs D pk))), some (.d (.str a.1)), some (.d (dS a.2)), none, none] μ (.d (dF (fr (isum (selI (ppak ch a) pk)) D))) :=
      pu_call1 ps fun er Q q => ⟨_, D, selI (ppak ch a) pk, rfl, .inl rfl, ok.D1, ok.D8, bs, by omega, q⟩
    have fb := fr_bd (a := isum (selI (ppak ch a) pk)) (D := D) sb.1 (by omega)
    have pf := pu_call2 (R := r_L_less) (pu_tup2 (d1 := .int 1) (d2 := .int 1) pu_c pu_c) pe (c := .d (.bool (decide (1 * (fr (isum (selI (ppak ch a) pk)) D).2 < (fr (isum (selI (ppak ch a) pk)) D).1 * 1)))) fun er Q q => ⟨(1, 1), fr (isum (selI (ppak ch a) pk)) D, rfl, by decide, by omega, q⟩
    rw [decide_eq_false (fr_le (by omega) (hv a List.mem_cons_self))] at pf
    exact i_if (put pf) (fun hk => by cases hk) fun _ => pak_loop ok hs hZ as _ _ fun u hu => hv u (List.mem_cons_of_mem _ hu)
theorem h_L_packs (cs : List Cl) (μ : Sto) (A : Cl → Sto → Prop) (er : Er) (h : r_L_packs cs μ A er) : a_L_packs r_L_less r_L_sum (bodyD μ A er) (startE ns_L_packs cs) μ := by
  obtain ⟨hd, as, ch, D, pk, rfl, ok, hv, h⟩ := h
  show a_L_packs _ _ _ [some (.d (dPat hd as)), some (.d (dS ch)), some (.d (.tuple (dFs D pk))), none, none, none, none] μ
  have len := ok.len
  have n8 := ok.n8
  have p2 : Pu (aVar 2) [some (.d (dPat hd as)), some (.d (dS ch)), some (.d (.tuple (dFs D pk))), none, none, none, none] μ (.d (.tuple (dFs D pk))) := pu_var rfl
  have p1 : Pu (aVar 1) [some (.d (dPat hd as)), some (.d (dS ch)), some (.d (.tuple (dFs D pk))), none, none, none, none] μ (.d (dS ch)) := pu_var rfl
  have p0 : Pu (aVar 0) [some (.d (dPat hd as)), some (.d (dS ch)), some (.d (.tuple (dFs D pk))), none, none, none, none] μ (.d (dPat hd as)) := pu_var rfl
  have l2 := pu_lenD p2 (l := dFs D pk) (.inr rfl)
  have l1 := pu_lenD p1 (l := ch.map PyData.str) (.inr rfl)
  rw [List.length_map] at l2 l1
  have pm : Pu (aFrz (aLc 5 [5] (aSeqI (aVar 2)) aYes (aOp fLt (aIx (aVar 5) (aC (.int 0))) (aC (.int 0))))) [some (.d (dPat hd as)), some (.d (dS ch)), some (.d (.tuple (dFs D pk))), none, none, none, none] μ (.d (.list (pk.map fun c => .bool (decide ((fr c D).1 < 0))))) :=
    pu_lcD (g := fun c => .d (dF (fr c D))) (st := fun _ => True) (fun er Q q => i_seqD p2 (l := dFs D pk) (.inr rfl) (by rw [List.map_map]; exact q)) trivial (fun c hc => pu_lt (pu_ixD (i := 0) (d := dF (fr c D)) (l := [.int (fr c D).1, .int (fr c D).2]) (pu_var rfl) pu_c (.inr rfl) rfl) pu_c) (by omega)
  refine i_sifN (put_or (put (pu_eqI (n := true) l2 l1)) fun _ => put (pu_any pm)) (fun hk => ?_) (fun _ => ?_)
  · rw [any_neg D ok.D1 pk fun x hx => (ok.b x hx).1, len, decide_eq_true rfl] at hk
    cases hk
  · refine i_sfor (i_seqD (pu_ixD (i := 1) (l := [dS hd, .tuple (as.map dAtom)]) (d' := .tuple (as.map dAtom)) p0 pu_c (.inr rfl) rfl) (l := as.map dAtom) (.inr rfl) ?_)
    refine pak_loop ok trivial (fun o3 o4 => ?_) as none none hv
    exact i_ret (D := bodyD μ A er) (ρ := [some (.d (dPat hd as)), some (.d (dS ch)), some (.d (.tuple (dFs D pk))), o3, o4, none, none]) pu_c (.inl h)
end Jh

set_option Elab.async false
set_option linter.all false
set_option maxRecDepth 100000
set_option maxHeartbeats 4000000
namespace Jh
open PySem PySem.Spec PyProof.Rows L2
/-! ### draws -/
abbrev drawC (ns : List Int) (i : Nat) (cur seed : Int) : List Cl := [.d (.list (ns.map .int)), .d (.int (i : Nat)), .d (.int cur), .d (.int seed)]
def DrawO (o : MO) : Prop := ∃ ns i cur seed, o = .lst (drawC ns i cur seed) ∧ 0 ≤ cur ∧ 0 ≤ seed
def r_L_take : RS := fun cs μ A _ => ∃ (j : Nat) (n : Int) (o : MO), cs = [.m j, .d (.int n)] ∧ 1 ≤ n ∧ n ≤ 1000000 ∧ μ[j]? = some o ∧ DrawO o ∧ ∀ v o', 0 ≤ v → v < n → DrawO o' → A (.d (.int v)) (μ.set j o')
section
variable {a b e : AX} {ρ : En} {μ : Sto} {c x y : Cl} {D : AD}
theorem pu_int {i : Int} (ha : Pu a ρ μ (.d (.int i))) : Pu (aCB fInt (aCons a aNil)) ρ μ (.d (.int i)) := fun er Q q => ha er _ q
theorem pu_abs {i : Int} (ha : Pu a ρ μ (.d (.int i))) : Pu (aCB fAbs (aCons a aNil)) ρ μ (.d (.int (if i < 0 then -i else i))) := fun er Q q => ha er _ q
theorem pu_mod {i j : Int} (ha : Pu a ρ μ (.d (.int i))) (hb : Pu b ρ μ (.d (.int j))) (h : 0 < j) : Pu (aOp fMod a b) ρ μ (.d (.int (i % j))) := fun er Q q => ha er _ (hb er _ ⟨h, q⟩)
theorem pu_pow {i j : Int} (ha : Pu a ρ μ (.d (.int i))) (hb : Pu b ρ μ (.d (.int j))) (h : CPow i j) : Pu (aOp fPow a b) ρ μ (.d (.int (i ^ j.toNat))) := fun er Q q => ha er _ (hb er _ ⟨h, q⟩)
theorem pu_at {j k : Nat} {cs : List Cl} (ha : Pu a ρ μ (.m j)) (h : μ[j]? = some (.lst cs)) (hk : cs[k]? = some c) (hb : Pu b ρ μ (.d (.int (k : Nat)))) : Pu (aIx a b) ρ μ c := pu_ix ha hb (cells_m h) (atI_nat hk)
end
theorem h_L_take (cs : List Cl) (μ : Sto) (A : Cl → Sto → Prop) (er : Er) (h : r_L_take cs μ A er) : a_L_take (bodyD μ A er) (startE ns_L_take cs) μ := by
  obtain ⟨j, n, o, rfl, n1, n2, hj, ⟨ns, i, cur, seed, rfl, hc, hse⟩, h⟩ := h
  show a_L_take _ [some (.m j), some (.d (.int n)), none, none] μ
  -- the end: by digits of cur, or by the seed
  have tail : ∀ (i : Nat) (cur : Int), 0 ≤ cur → ∀ μ1 : Sto, μ1 = μ.set j (.lst (drawC ns i cur seed)) → (sSeq (sIf (aTest (aOp (fI pGt) (aIx (aVar 0) (aC (.int 2))) (aC (.int 0)))) (sSeq (sAsg (aOp fMod (aCB fInt (aCons (aIx (aVar 0) (aC (.int 2))) aNil)) (aVar 1)) (gN 3))
    (sSeq (sAsg (aOp fDiv (aCB fInt (aCons (aIx (aVar 0) (aC (.int 2))) aNil)) (aVar 1)) (gIx (aVar 0) (aC (.int 2))))
    (sRet (aVar 3)))) sNext)
    (sSeq (sAsg (aOp fMod (aCB fInt (aCons (aOp fAdd (aOp fMul (aIx (aVar 0) (aC (.int 3))) (aC (.int 48271))) (aC (.int 11))) aNil)) (aC (.int 2147483647))) (gIx (aVar 0) (aC (.int 3))))
    (sRet (aOp fMod (aCB fInt (aCons (aOp fDiv (aIx (aVar 0) (aC (.int 3))) (aC (.int 3))) aNil)) (aVar 1))))) (bodyD μ A er) [some (.m j), some (.d (.int n)), none, none] μ1 := by
    intro i cur hc μ1 e1
    have hj1 : μ1[j]? = some (.lst (drawC ns i cur seed)) := by rw [e1]; exact at_same hj
    have p0 : Pu (aVar 0) [some (.m j), some (.d (.int n)), none, none] μ1 (.m j) := pu_var rfl
    have p1 : Pu (aVar 1) [some (.m j), some (.d (.int n)), none, none] μ1 (.d (.int n)) := pu_var rfl
    have c2 : Pu (aIx (aVar 0) (aC (.int 2))) [some (.m j), some (.d (.int n)), none, none] μ1 (.d (.int cur)) := pu_at (k := 2) p0 hj1 rfl pu_c
    have c3 : Pu (aIx (aVar 0) (aC (.int 3))) [some (.m j), some (.d (.int n)), none, none] μ1 (.d (.int seed)) := pu_at (k := 3) p0 hj1 rfl pu_c
    refine i_sifN (put (pu_I (p := pGt) c2 (pu_c (d := .int 0)))) (fun hk => ?_) (fun hk => ?_)
    · refine i_sset (pu_mod (pu_int c2) p1 (by omega)) ?_
      have q0 : Pu (aVar 0) [some (.m j), some (.d (.int n)), none, some (.d (.int (cur % n)))] μ1 (.m j) := pu_var rfl
      have q1 : Pu (aVar 1) [some (.m j), some (.d (.int n)), none, some (.d (.int (cur % n)))] μ1 (.d (.int n)) := pu_var rfl
      have q2 : Pu (aIx (aVar 0) (aC (.int 2))) [some (.m j), some (.d (.int n)), none, some (.d (.int (cur % n)))] μ1 (.d (.int cur)) := pu_at (k := 2) q0 hj1 rfl pu_c
      refine i_ssgIx (i := 2) (k := 2) (pu_div (pu_int q2) q1 (divOk (by omega))) q0 pu_c hj1 rfl ?_
      rw [e1, List.set_set]
      exact i_ret (pu_var rfl) (.inl (h _ _ (Int.emod_nonneg _ (by omega)) (Int.emod_lt_of_pos _ (by omega)) ⟨ns, i, cur / n, seed, rfl, Int.ediv_nonneg hc (by omega), hse⟩))
    · refine i_ssgIx (i := 3) (k := 3) (pu_mod (pu_int (pu_add (pu_mul c3 (pu_c (d := .int 48271)) (mulR (by omega))) (pu_c (d := .int 11)))) (pu_c (d := .int 2147483647)) (by omega)) p0 pu_c hj1 rfl ?_
      have hs2 : 0 ≤ (seed * 48271 + 11) % 2147483647 := Int.emod_nonneg _ (by omega)
      have hj2 := at_same (o' := .lst (drawC ns i cur ((seed * 48271 + 11) % 2147483647))) hj1
      have r0 : Pu (aVar 0) [some (.m j), some (.d (.int n)), none, none] (μ1.set j (.lst (drawC ns i cur ((seed * 48271 + 11) % 2147483647)))) (.m j) := pu_var rfl
      have r1 : Pu (aVar 1) [some (.m j), some (.d (.int n)), none, none] (μ1.set j (.lst (drawC ns i cur ((seed * 48271 + 11) % 2147483647)))) (.d (.int n)) := pu_var rfl
      have r3 : Pu (aIx (aVar 0) (aC (.int 3))) [some (.m j), some (.d (.int n)), none, none] (μ1.set j (.lst (drawC ns i cur ((seed * 48271 + 11) % 2147483647)))) (.d (.int ((seed * 48271 + 11) % 2147483647))) := pu_at (k := 3) r0 hj2 rfl pu_c
      refine i_ret (pu_mod (pu_int (pu_div r3 (pu_c (d := .int 3)) (divOk (by omega)))) r1 (by omega)) (.inl ?_)
      rw [e1, List.set_set]
      exact h _ _ (Int.emod_nonneg _ (by omega)) (Int.emod_lt_of_pos _ (by omega)) ⟨ns, i, cur, _, rfl, hc, hs2⟩
  have p0 : Pu (aVar 0) [some (.m j), some (.d (.int n)), none, none] μ (.m j) := pu_var rfl
  have c0 : Pu (aIx (aVar 0) (aC (.int 0))) [some (.m j), some (.d (.int n)), none, none] μ (.d (.list (ns.map .int))) := pu_at (k := 0) p0 hj rfl pu_c
  have c1 : Pu (aIx (aVar 0) (aC (.int 1))) [some (.m j), some (.d (.int n)), none, none] μ (.d (.int (i : Nat))) := pu_at (k := 1) p0 hj rfl pu_c
  have c2 : Pu (aIx (aVar 0) (aC (.int 2))) [some (.m j), some (.d (.int n)), none, none] μ (.d (.int cur)) := pu_at (k := 2) p0 hj rfl pu_c
  have cl := pu_lenD c0 (l := ns.map .int) (.inl rfl)
  rw [List.length_map] at cl
  have same : μ = μ.set j (.lst (drawC ns i cur seed)) := by
    apply List.ext_getElem?
    intro k
    by_cases hk : k = j
    · subst hk; rw [at_same hj, hj]
    · rw [at_ne hk]
  refine i_sifN (put_and (put (pu_eqI (n := false) c2 (pu_c (d := .int 0)))) fun _ => put (pu_lt c1 cl)) (fun hk => ?_) (fun hk => tail i cur hc μ same)
  rw [Bool.and_eq_true] at hk
  have hi : i < ns.length := by have := of_decide_eq_true hk.2; omega
  have gi' : ns[i]? = some ns[i] := List.getElem?_eq_getElem hi
  generalize ns[i] = z at gi'
  have cz : Pu (aIx (aIx (aVar 0) (aC (.int 0))) (aIx (aVar 0) (aC (.int 1)))) [some (.m j), some (.d (.int n)), none, none] μ (.d (.int z)) := pu_ixD (i := i) c0 c1 (l := ns.map .int) (.inl rfl) (by rw [List.getElem?_map, gi']; rfl)
  have zn : 0 ≤ (if z < 0 then -z else z) := by split <;> omega
  refine i_ssgIx (i := 2) (k := 2) (pu_abs (pu_int cz)) p0 pu_c hj rfl ?_
  generalize (if z < 0 then -z else z) = w at zn
  have hj1 := at_same (o' := .lst (drawC ns i w seed)) hj
  have q0 : Pu (aVar 0) [some (.m j), some (.d (.int n)), none, none] (μ.set j (.lst (drawC ns i w seed))) (.m j) := pu_var rfl
  have q1 : Pu (aIx (aVar 0) (aC (.int 1))) [some (.m j), some (.d (.int n)), none, none] (μ.set j (.lst (drawC ns i w seed))) (.d (.int (i : Nat))) := pu_at (k := 1) q0 hj1 rfl pu_c
  refine i_ssgIx (i := 1) (k := 1) (c := .d (.int ((i + 1 : Nat) : Int))) (by have := pu_add q1 (pu_c (d := .int 1)); rw [Int.natCast_add]; exact this) q0 pu_c hj1 rfl ?_
  show sIf _ _ _ _ _ ((μ.set j (.lst (drawC ns i w seed))).set j (.lst (drawC ns (i + 1) w seed)))
  rw [List.set_set]
  have hj2 := at_same (o' := .lst (drawC ns (i + 1) w seed)) hj
  have s0 : Pu (aVar 0) [some (.m j), some (.d (.int n)), none, none] (μ.set j (.lst (drawC ns (i + 1) w seed))) (.m j) := pu_var rfl
  have s2 : Pu (aIx (aVar 0) (aC (.int 2))) [some (.m j), some (.d (.int n)), none, none] (μ.set j (.lst (drawC ns (i + 1) w seed))) (.d (.int w)) := pu_at (k := 2) s0 hj2 rfl pu_c
  refine i_if (put (pu_lt s2 (pu_pow (pu_c (d := .int 10)) (pu_c (d := .int 18)) ⟨by decide, by decide, by decide⟩))) (fun _ => ?_) (fun _ => tail (i + 1) w zn _ rfl)
  refine i_sset (pu_int s2) ?_
  have t0 : Pu (aVar 0) [some (.m j), some (.d (.int n)), some (.d (.int w)), none] (μ.set j (.lst (drawC ns (i + 1) w seed))) (.m j) := pu_var rfl
  refine i_ssgIx (i := 2) (k := 2) (c := .d (.int 0)) pu_c t0 pu_c hj2 rfl ?_
  rw [List.set_set]
  have u2 : Pu (aVar 2) [some (.m j), some (.d (.int n)), some (.d (.int w)), none] (μ.set j (.lst (drawC ns (i + 1) 0 seed))) (.d (.int w)) := pu_var rfl
  have u1 : Pu (aVar 1) [some (.m j), some (.d (.int n)), some (.d (.int w)), none] (μ.set j (.lst (drawC ns (i + 1) 0 seed))) (.d (.int n)) := pu_var rfl
  exact i_ret (pu_mod u2 u1 (by omega)) (.inl (h _ _ (Int.emod_nonneg _ (by omega)) (Int.emod_lt_of_pos _ (by omega)) ⟨ns, i + 1, 0, seed, rfl, Int.le_refl 0, hse⟩))
end Jh

set_option Elab.async false
set_option linter.all false
set_option maxRecDepth 100000
set_option maxHeartbeats 4000000
namespace Jh
open PySem PySem.Spec PyProof.Rows L2
theorem i_ret_own4 {a b c d : AX} {c1 c2 c3 c4 : Cl} {ρ : En} {μ : Sto} {D : AD} (h1 : Pu a ρ μ c1) (h2 : Pu b ρ μ c2) (h3 : Pu c ρ μ c3) (h4 : Pu d ρ μ c4) (h : D.rt (.m μ.length) (μ ++ [.lst [c1, c2, c3, c4]])) : sRet (aOwn (aLst (aCons a (aCons b (aCons c (aCons d aNil)))))) D ρ μ :=
  h1 _ _ (h2 _ _ (h3 _ _ (h4 _ _ (And.intro (Nat.le_of_ble_eq_true rfl) h))))
theorem i_tupLc {j : Nat} {vs : List Nat} {I : AI} {t : AT} {e : AX} {er : Er} {ρ : En} {μ : Sto} {Q : Cl → Sto → Prop} (h : I er ρ μ fun xs st μ1 => lcL j (wipeE ρ vs) t e st (fun cs μ2 => match allD cs with
  | some ds => (match allD (ds.map Cl.d) with
    | some ds => Q (.d (.tuple ds)) μ2
    | none => False)
  | none => False) xs [] μ1) : aCB fTup (aCons (aFrz (aLc j vs I t e)) aNil) er ρ μ Q := h
theorem end_tupLc {cs : List Cl} {ds : List PyData} {R : List PyData → Prop} (e : cs = ds.map .d) (h : R ds) : (match allD cs with
  | some ds => (match allD (ds.map Cl.d) with
    | some ds => R ds
    | none => False)
  | none => False) := by
  subst e
  rw [allD_map]
  dsimp only
  rw [allD_map]
  exact h
theorem i_sown0 {ρ : En} {μ : Sto} {D : AD} {u : ASt} {i : Nat} (h : u D (ρ.set i (some (.m μ.length))) (μ ++ [.lst []])) : sSeq (sAsg (aOwn (aLst aNil)) (gN i)) u D ρ μ := And.intro (Nat.le_of_ble_eq_true rfl) h
/-! ### _law_begin -/
def r_L_begin : RS := fun cs μ A _ => ∃ ns, cs = [.s ns] ∧ ns.length ≤ 900 ∧ ∀ o, DrawO o → A (.m μ.length) (μ ++ [o])
theorem begin_loop {ns : List Int} {μ : Sto} {st : Sto → Prop} {Z : AD} (hs : st μ) (hZ : ∀ seed o2, 0 ≤ seed → Z.nx [some (.s ns), some (.d (.int seed)), o2] μ) : ∀ (l : List Int) (seed : Int) (o2 : Option Cl), 0 ≤ seed →
    forL (gN 2) (sAsg (aOp fMod (aOp fAdd (aOp fAdd (aOp fMul (aVar 1) (aC (.int 69621))) (aOp fMod (aCB fInt (aCons (aVar 2) aNil)) (aC (.int 2147483629)))) (aC (.int 7))) (aC (.int 2147483647))) (gN 1)) st Z (l.map fun i => Cl.d (.int i)) [some (.s ns), some (.d (.int seed)), o2] μ
  | [], seed, o2, h => ⟨hs, hZ seed o2 h⟩
  | x :: l, seed, o2, h => by
    refine ⟨hs, ?_⟩
    have p1 : Pu (aVar 1) [some (.s ns), some (.d (.int seed)), some (.d (.int x))] μ (.d (.int seed)) := pu_var rfl
    have p2 : Pu (aVar 2) [some (.s ns), some (.d (.int seed)), some (.d (.int x))] μ (.d (.int x)) := pu_var rfl
    refine i_set (pu_mod (pu_add (pu_add (pu_mul p1 (pu_c (d := .int 69621)) (mulR (by omega))) (pu_mod (pu_int p2) (pu_c (d := .int 2147483629)) (by omega))) (pu_c (d := .int 7))) (pu_c (d := .int 2147483647)) (by omega)) ?_
    exact begin_loop hs hZ l _ _ (Int.emod_nonneg _ (by omega))
theorem h_L_begin (cs : List Cl) (μ : Sto) (A : Cl → Sto → Prop) (er : Er) (h : r_L_begin cs μ A er) : a_L_begin (bodyD μ A er) (startE ns_L_begin cs) μ := by
  obtain ⟨ns, rfl, hl, h⟩ := h
  show a_L_begin _ [some (.s ns), none, none] μ
  refine i_sset (c := .d (.int 1)) pu_c ?_
  refine i_sfor (i_seqI (c := .s ns) (cs := ns.map fun i => Cl.d (.int i)) (pu_var rfl) rfl ?_)
  refine begin_loop trivial (fun seed o2 hse => ?_) ns 1 none (by omega)
  have pl : Pu (aFrz (aCBL fList (aCons (aVar 0) aNil))) [some (.s ns), some (.d (.int seed)), o2] μ (.d (.list (ns.map .int))) := fun er Q q => by
    show match allD (ns.map fun i => Cl.d (.int i)) with | some ds => Q (.d (.list ds)) μ | none => False
    have e : (ns.map fun i => Cl.d (.int i)) = (ns.map PyData.int).map .d := by rw [List.map_map]; rfl
    rw [e, allD_map]; exact q
  exact i_ret_own4 (D := bodyD μ A er) pl (pu_c (d := .int 0)) (pu_c (d := .int 0)) (pu_var (i := 1) (c := .d (.int seed)) rfl) (.inl (h _ ⟨ns, 0, 0, seed, rfl, Int.le_refl 0, hse⟩))
/-! ### the store while drawing: the draws at j, own lists behind -/
def S (j : Nat) (μ : Sto) (L : Sto) (o : MO) : Sto := μ.set j o ++ L
section
variable {j : Nat} {μ L : Sto} {o o' : MO}
theorem S_get (h : j < μ.length) : (S j μ L o)[j]? = some o := by
  unfold S
  rw [List.getElem?_append_left (by rw [List.length_set]; exact h), List.getElem?_set_self h]
theorem S_set (h : j < μ.length) : (S j μ L o).set j o' = S j μ L o' := by
  unfold S
  rw [List.set_append_left _ _ (by rw [List.length_set]; exact h), List.set_set]
theorem S_len : (S j μ L o).length = μ.length + L.length := by unfold S; simp
theorem S_app {x : MO} : S j μ L o ++ [x] = S j μ (L ++ [x]) o := by unfold S; rw [List.append_assoc]
theorem S_at {k : Nat} {x : MO} (h : L[k]? = some x) : (S j μ L o)[μ.length + k]? = some x := by
  unfold S
  rw [List.getElem?_append_right (by rw [List.length_set]; omega), List.length_set, Nat.add_sub_cancel_left]; exact h
theorem S_setL {k : Nat} {x : MO} : (S j μ L o).set (μ.length + k) x = S j μ (L.set k x) o := by
  unfold S
  rw [List.set_append_right _ _ (by rw [List.length_set]; omega), List.length_set, Nat.add_sub_cancel_left]
theorem S_nil (h : μ[j]? = some o) : μ = S j μ [] o := by
  unfold S
  rw [List.append_nil]
  apply List.ext_getElem?
  intro k
  by_cases hk : k = j
  · subst hk; rw [at_same h, h]
  · rw [at_ne hk]
end
theorem draw_plain {o : MO} (h : DrawO o) : plainO o = true := by
  obtain ⟨ns, i, cur, seed, rfl, _⟩ := h
  rfl
/-- the end of a def that has drawn -/
theorem fin_S {j : Nat} {μ L : Sto} {o : MO} {A : Cl → Sto → Prop} {d : PyData} (h : DrawO o) (q : A (.d d) (μ.set j o)) : finR μ A (.d d) (S j μ L o) := .inr ⟨μ.set j o, L, rfl, Cut.set (draw_plain h), rfl, q⟩
/-- take, in this store -/
theorem i_takeS {j : Nat} {μ L : Sto} {o : MO} {ρ : En} {er : Er} {a b : AX} {n : Int} {Q : Cl → Sto → Prop} (hj : j < μ.length) (ho : DrawO o) (ha : Pu a ρ (S j μ L o) (.m j)) (hb : Pu b ρ (S j μ L o) (.d (.int n))) (n1 : 1 ≤ n) (n2 : n ≤ 1000000) (h : ∀ v o', 0 ≤ v → v < n → DrawO o' → Q (.d (.int v)) (S j μ L o')) :
    aCall r_L_take (aCons a (aCons b aNil)) er ρ (S j μ L o) Q := i_call2 ha hb ⟨j, n, o, rfl, n1, n2, S_get hj, ho, fun v o' h1 h2 h3 => by rw [S_set hj]; exact h v o' h1 h2 h3⟩
/-- a comprehension of draws -/
theorem lcL_take {j jx : Nat} {μ L : Sto} {ρ : En} {n : Int} {f : Int → Cl} {e : AX} {st : Sto → Prop} {Q : List Cl → Sto → Prop} (hs : ∀ μ, st μ)
    (he : ∀ (x : Cl) (o : MO) (Q' : Cl → Sto → Prop), DrawO o → (∀ v o', 0 ≤ v → v < n → DrawO o' → Q' (f v) (S j μ L o')) → e (fun _ _ => False) (ρ.set jx (some x)) (S j μ L o) Q') :
    ∀ (xs : List Cl) (acc : List Cl) (o : MO), DrawO o → acc.length + xs.length ≤ 1000 → (∀ (vs : List Int) o', vs.length = xs.length → (∀ v ∈ vs, 0 ≤ v ∧ v < n) → DrawO o' → Q (acc ++ vs.map f) (S j μ L o')) → lcL jx ρ aYes e st Q xs acc (S j μ L o)
  | [], acc, o, ho, _, h => ⟨hs _, by simpa using h [] o rfl (fun v hv => by cases hv) ho⟩
  | x :: xs, acc, o, ho, hl, h => by
    refine ⟨hs _, by simp at hl; omega, ?_⟩
    refine he x o _ ho fun v o' h1 h2 h3 => lcL_take hs he xs (acc ++ [f v]) o' h3 (by simp at hl ⊢; omega) fun vs o'' l1 l2 l3 => ?_
    have := h (v :: vs) o'' (by simp [l1]) (fun w hw => by
      rcases List.mem_cons.mp hw with rfl | hw
      · exact ⟨h1, h2⟩
      · exact l2 w hw) l3
    simpa using this
/-! ### _law_rows -/
structure RowsOk (cols most reach : Int) (rows : List (List Int)) : Prop where
  len : (rows.length : Int) ≤ most
  row : ∀ r ∈ rows, (r.length : Int) = cols ∧ ∀ x ∈ r, 0 ≤ x ∧ x < reach
  asc : ∀ (k : Nat) r r', rows[k]? = some r → rows[k + 1]? = some r' → r < r'
def leR (a b : List Int) : Bool := PySem.W.dataLe false (fun d => d) (dL a) (dL b)
theorem leR_iff (a b : List Int) : leR a b = true ↔ ¬ b < a := by
  have e : leR a b = !PySem.W.dataLt (dL b) (dL a) := rfl
  rw [e, dL_lt]
  simp
theorem sortD_dL (l : List (List Int)) : sortD (l.map dL) = (l.mergeSort leR).map dL := by
  have e := PySem.W.sort_maps (r := leR) (s := PySem.W.dataLe false fun d => d) (l := l) dL (fun _ _ _ _ => rfl)
  exact e.symm
theorem asc_sorted {l : List (List Int)} (nd : l.Nodup) : ∀ (k : Nat) r r', (l.mergeSort leR)[k]? = some r → (l.mergeSort leR)[k + 1]? = some r' → r < r' := by
  have tr : ∀ a b c : List Int, leR a b = true → leR b c = true → leR a c = true := fun a b c h1 h2 => by
    rw [leR_iff] at h1 h2 ⊢
    intro h3
    have h1 := List.not_lt.mp h1
    have h2 := List.not_lt.mp h2
    exact absurd h3 (List.not_lt.mpr (List.le_trans h1 h2))
  have to : ∀ a b : List Int, (leR a b || leR b a) = true := fun a b => by
    rw [Bool.or_eq_true, leR_iff, leR_iff]
    by_cases h : b < a
    · exact .inr fun z => List.lt_asymm h z
    · exact .inl h
  have pw := List.pairwise_mergeSort tr to l
  have nd' : (l.mergeSort leR).Nodup := (List.mergeSort_perm l leR).nodup_iff.mpr nd
  intro k r r' h1 h2
  have hk1 := (List.getElem?_eq_some_iff.mp h1)
  have hk2 := (List.getElem?_eq_some_iff.mp h2)
  have p := List.pairwise_iff_getElem.mp pw k (k + 1) hk1.1 hk2.1 (by omega)
  rw [hk1.2, hk2.2, leR_iff] at p
  by_cases h : r < r'
  · exact h
  · have e : r = r' := List.le_antisymm (List.not_lt.mp p) (List.not_lt.mp h)
    have : k = k + 1 := (List.getElem?_inj hk1.1 nd').mp (by rw [h1, h2, e])
    omega
theorem inD_dL (r : List Int) (R : List (List Int)) : inD (dL r) (R.map dL) = decide (r ∈ R) := by
  unfold inD
  induction R with
  | nil => simp
  | cons x R ih =>
    rw [List.map_cons, List.any_cons, ih, eqv_dL]
    by_cases h : x = r
    · simp [h]
    · have : ¬ r = x := fun e => h e.symm
      simp [h, this]
def r_L_rows : RS := fun cs μ A _ => ∃ (j : Nat) (cols most reach : Int) (o : MO), cs = [.m j, .d (.int cols), .d (.int most), .d (.int reach)] ∧ μ[j]? = some o ∧ DrawO o ∧ 1 ≤ cols ∧ cols ≤ 10 ∧ 0 ≤ most ∧ most ≤ 100 ∧ 1 ≤ reach ∧ reach ≤ 1000 ∧
  ∀ rows o', RowsOk cols most reach rows → DrawO o' → A (.d (.tuple (rows.map dL))) (μ.set j o')
abbrev rowsB : ASt := (sSeq (sAsg (aCB fTup (aCons (aFrz (aLc 7 [7] (aRg1 (aCons (aVar 1) aNil)) aYes (aCall r_L_take (aCons (aVar 0) (aCons (aVar 3) aNil))))) aNil)) (gN 6))
    (sIf (aTest (aOp (fIn true) (aVar 6) (aVar 4))) (sApp (aVar 4) (aVar 6)) sNext))
theorem rows_loop {j : Nat} {cols most reach : Int} {μ : Sto} {st : Sto → Prop} {Z : AD} (hj : j < μ.length) (c1 : 1 ≤ cols) (c10 : cols ≤ 10) (r1 : 1 ≤ reach) (r2 : reach ≤ 1000) (hs : ∀ μ, st μ)
    (hZ : ∀ (R : List (List Int)) o o5 o6, DrawO o → R.Nodup → (R.length : Int) ≤ most → (∀ r ∈ R, (r.length : Int) = cols ∧ ∀ x ∈ r, 0 ≤ x ∧ x < reach) → Z.nx [some (.m j), some (.d (.int cols)), some (.d (.int most)), some (.d (.int reach)), some (.m μ.length), o5, o6, none] (S j μ [.lst (R.map fun r => .d (dL r))] o)) :
    ∀ (xs : List Cl) (R : List (List Int)) (o : MO) (o5 o6 : Option Cl), DrawO o → R.Nodup → ((R.length : Int) + xs.length ≤ most) → most ≤ 100 → (∀ r ∈ R, (r.length : Int) = cols ∧ ∀ x ∈ r, 0 ≤ x ∧ x < reach) →
      forL (gN 5) rowsB st Z xs [some (.m j), some (.d (.int cols)), some (.d (.int most)), some (.d (.int reach)), some (.m μ.length), o5, o6, none] (S j μ [.lst (R.map fun r => .d (dL r))] o)
  | [], R, o, o5, o6, ho, nd, hl, _, hr => ⟨hs _, hZ R o o5 o6 ho nd (by simpa using hl) hr⟩
  | x :: xs, R, o, o5, o6, ho, nd, hl, hm, hr => by
    simp only [List.length_cons] at hl
    refine ⟨hs _, ?_⟩
    refine i_sasgN (i_tupLc ?_)
    refine i_rg1I (n := cols) (pu_var (i := 1) rfl) (by omega) (by omega) ?_
    refine lcL_take (n := reach) (f := fun v => .d (.int v)) (fun _ => trivial) (fun y o' Q' ho' h => i_takeS hj ho' (pu_var rfl) (pu_var (i := 3) rfl) r1 (by omega) h) (rgC 0 cols.toNat) [] o ho (by rw [rgC_len]; simp; omega) fun vs o' l1 l2 ho' => ?_
    rw [rgC_len] at l1
    refine end_tupLc (ds := vs.map PyData.int) (by rw [List.map_map]; rfl) ?_
    have p6 : Pu (aVar 6) [some (.m j), some (.d (.int cols)), some (.d (.int most)), some (.d (.int reach)), some (.m μ.length), some x, some (.d (dL vs)), none] (S j μ [.lst (R.map fun r => .d (dL r))] o') (.d (dL vs)) := pu_var rfl
    have p4 : Pu (aVar 4) [some (.m j), some (.d (.int cols)), some (.d (.int most)), some (.d (.int reach)), some (.m μ.length), some x, some (.d (dL vs)), none] (S j μ [.lst (R.map fun r => .d (dL r))] o') (.m μ.length) := pu_var rfl
    have hF : (S j μ [.lst (R.map fun r => .d (dL r))] o')[μ.length]? = some (.lst (R.map fun r => .d (dL r))) := S_at (k := 0) rfl
    have pi := pu_in (n := true) (ds := R.map dL) p6 p4 (cells_m hF) (by rw [show (R.map fun r => Cl.d (dL r)) = (R.map dL).map .d by rw [List.map_map]; rfl, allD_map]) (Nat.le_trans (dL_depth vs) (by decide))
    rw [inD_dL, neg_true] at pi
    have hv : (vs.length : Int) = cols ∧ ∀ x ∈ vs, 0 ≤ x ∧ x < reach := ⟨by omega, l2⟩
    show sIf (aTest (aOp (fIn true) (aVar 6) (aVar 4))) (sApp (aVar 4) (aVar 6)) sNext _ [some (.m j), some (.d (.int cols)), some (.d (.int most)), some (.d (.int reach)), some (.m μ.length), some x, some (.d (dL vs)), none] (S j μ [.lst (R.map fun r => .d (dL r))] o')
    refine i_if (put pi) (fun hk => ?_) (fun hk => ?_)
    · have hv' : ¬ vs ∈ R := by simpa using hk
      refine i_appP p4 hF p6 (by rw [List.length_map]; omega) ?_
      have e1 : (S j μ [.lst (R.map fun r => .d (dL r))] o').set μ.length (.lst ((R.map fun r => Cl.d (dL r)) ++ [.d (dL vs)])) = S j μ [.lst ((R ++ [vs]).map fun r => .d (dL r))] o' := by
        have := S_setL (j := j) (μ := μ) (L := [.lst (R.map fun r => .d (dL r))]) (o := o') (k := 0) (x := .lst ((R.map fun r => Cl.d (dL r)) ++ [.d (dL vs)]))
        rw [Nat.add_zero] at this
        rw [this]
        simp
      rw [e1]
      refine rows_loop hj c1 c10 r1 r2 hs hZ xs (R ++ [vs]) o' _ _ ho' ?_ (by simp; omega) hm fun r hr' => ?_
      · rw [List.nodup_append]
        exact ⟨nd, by simp, fun a ha b hb => by rw [List.mem_singleton.mp hb]; exact fun e => hv' (e ▸ ha)⟩
      · rcases List.mem_append.mp hr' with hr' | hr'
        · exact hr r hr'
        · rw [List.mem_singleton.mp hr']; exact hv
    · exact rows_loop hj c1 c10 r1 r2 hs hZ xs R o' _ _ ho' nd (by omega) hm hr
theorem h_L_rows (cs : List Cl) (μ : Sto) (A : Cl → Sto → Prop) (er : Er) (h : r_L_rows cs μ A er) : a_L_rows r_L_take (bodyD μ A er) (startE ns_L_rows cs) μ := by
  obtain ⟨j, cols, most, reach, o, rfl, hj, ho, c1, c10, m0, m100, r1, r2, h⟩ := h
  show a_L_rows _ _ [some (.m j), some (.d (.int cols)), some (.d (.int most)), some (.d (.int reach)), none, none, none, none] μ
  have lj := at_lt hj
  refine i_sown0 ?_
  have e0 : μ ++ [MO.lst []] = S j μ [.lst []] o := by
    have := S_nil hj
    rw [this, S_app]
    rw [← this]; rfl
  rw [e0]
  refine i_sfor ?_
  show aCall r_L_take _ _ _ _ _
  refine i_takeS (n := most + 1) lj ho (pu_var rfl) (pu_add (j := 1) (pu_var (i := 2) rfl) pu_c) (by omega) (by omega) fun v o' v0 v1 ho' => ?_
  refine And.intro (by omega) (And.intro (by omega) ?_)
  refine rows_loop (reach := reach) (most := most) lj c1 c10 r1 r2 (fun _ => trivial) (fun R o'' o5 o6 ho'' nd hl hr => ?_) (rgC 0 v.toNat) [] o' none none ho' List.nodup_nil (by rw [rgC_len]; simp; omega) m100 (fun r hr => by cases hr)
  have hF : (S j μ [.lst (R.map fun r => .d (dL r))] o'')[μ.length]? = some (.lst (R.map fun r => .d (dL r))) := S_at (k := 0) rfl
  have ps : Pu (aFrz (aCBL fSort (aCons (aVar 4) aNil))) [some (.m j), some (.d (.int cols)), some (.d (.int most)), some (.d (.int reach)), some (.m μ.length), o5, o6, none] (S j μ [.lst (R.map fun r => .d (dL r))] o'') (.d (.list ((R.mergeSort leR).map dL))) := fun er Q q => by
    show match cellsOf (.m μ.length) (S j μ [.lst (R.map fun r => .d (dL r))] o'') with | some xs => (match allD xs with | some ds => PySem.W.AllAlike ds ∧ PySem.W.Sortable ds ∧ ds.length ≤ 1000 ∧ (∀ d ∈ ds, d.depth ≤ 32) ∧ (match allD ((sortD ds).map .d) with | some ds => Q (.d (.list ds)) _ | none => False) | none => False) | none => False
    rw [cells_m hF]
    show match allD (R.map fun r => Cl.d (dL r)) with | some ds => PySem.W.AllAlike ds ∧ PySem.W.Sortable ds ∧ ds.length ≤ 1000 ∧ (∀ d ∈ ds, d.depth ≤ 32) ∧ (match allD ((sortD ds).map .d) with | some ds => Q (.d (.list ds)) _ | none => False) | none => False
    rw [show (R.map fun r => Cl.d (dL r)) = (R.map dL).map .d by rw [List.map_map]; rfl, allD_map]
    refine ⟨fun d hd d' hd' => ?_, .inl fun d hd => ?_, by rw [List.length_map]; omega, fun d hd => ?_, ?_⟩
    · obtain ⟨s, _, rfl⟩ := List.mem_map.mp hd
      obtain ⟨t, _, rfl⟩ := List.mem_map.mp hd'
      exact dL_alike s t
    · obtain ⟨s, hs, rfl⟩ := List.mem_map.mp hd
      have := (hr s hs).1
      cases s with
      | nil => simp at this; omega
      | cons x s => exact ⟨.int x, s.map .int, rfl⟩
    · obtain ⟨s, _, rfl⟩ := List.mem_map.mp hd
      exact Nat.le_trans (dL_depth s) (by decide)
    · rw [sortD_dL, allD_map]
      show Q (.d (.list ((R.mergeSort leR).map dL))) _
      rw [show (R.map dL).map Cl.d = R.map fun r => Cl.d (dL r) by rw [List.map_map]; rfl]
      exact q
  refine i_ret (D := bodyD μ A er) (pu_tupC ps rfl rfl) (fin_S ho'' (h _ o'' ⟨by rw [List.length_mergeSort]; exact hl, fun r hr' => hr r ((List.mergeSort_perm R leR).mem_iff.mp hr'), asc_sorted nd⟩ ho''))
end Jh

set_option Elab.async false
set_option linter.all false
set_option maxRecDepth 100000
set_option maxHeartbeats 4000000
namespace Jh
open PySem PySem.Spec PyProof.Rows L2
/-! ### _law_catalogue -/
def nameOf (k : Nat) (n : Int) : Str := (⟨#[97 + k]⟩ : Str) ++ ((toString n : String) : Str)
structure CatOk (c : List Tb) : Prop where
  l1 : 1 ≤ c.length
  l3 : c.length ≤ 3
  tb : ∀ (k : Nat) t, c[k]? = some t → t.nm = nameOf k t.cols ∧ (1 ≤ t.cols ∧ t.cols ≤ 4) ∧ RowsOk t.cols 7 4 t.rows
def r_L_catalogue : RS := fun cs μ A _ => ∃ (j : Nat) (o : MO), cs = [.m j, .d (.int 3), .d (.int 7), .d (.int 4)] ∧ μ[j]? = some o ∧ DrawO o ∧ ∀ c o', CatOk c → DrawO o' → A (.d (dCat c)) (μ.set j o')
theorem i_ixB {a b : AX} {ρ : En} {μ : Sto} {x : Cl} {er : Er} {Q : Cl → Sto → Prop} (ha : Pu a ρ μ x) (h : b er ρ μ fun y μ2 => fIx x y μ2 Q) : aIx a b er ρ μ Q := ha er _ h
theorem i_tup3c {e1 e2 e3 : AX} {ρ : En} {μ : Sto} {d1 d2 : PyData} {er : Er} {Q : Cl → Sto → Prop} (h1 : Pu e1 ρ μ (.d d1)) (h2 : Pu e2 ρ μ (.d d2)) (h3 : e3 er ρ μ fun c μ' => match allD [.d d1, .d d2, c] with
  | some ds => ds.length ≤ 1000 ∧ Q (.d (.tuple ds)) μ'
  | none => False) : aTup (aCons e1 (aCons e2 (aCons e3 aNil))) er ρ μ Q := h1 _ _ (h2 _ _ h3)
theorem i_tup2c {e1 e2 : AX} {ρ : En} {μ : Sto} {d1 : PyData} {er : Er} {Q : Cl → Sto → Prop} (h1 : Pu e1 ρ μ (.d d1)) (h3 : e2 er ρ μ fun c μ' => match allD [.d d1, c] with
  | some ds => ds.length ≤ 1000 ∧ Q (.d (.tuple ds)) μ'
  | none => False) : aTup (aCons e1 (aCons e2 aNil)) er ρ μ Q := h1 _ _ h3
theorem i_call4 {e1 e2 e3 e4 : AX} {ρ : En} {μ : Sto} {c1 c2 c3 c4 : Cl} {R : RS} {er : Er} {Q : Cl → Sto → Prop} (h1 : Pu e1 ρ μ c1) (h2 : Pu e2 ρ μ c2) (h3 : Pu e3 ρ μ c3) (h4 : Pu e4 ρ μ c4) (q : R [c1, c2, c3, c4] μ Q er) : aCall R (aCons e1 (aCons e2 (aCons e3 (aCons e4 aNil)))) er ρ μ Q := h1 _ _ (h2 _ _ (h3 _ _ (h4 _ _ q)))
theorem pu_addS {a b : AX} {ρ : En} {μ : Sto} {s t : Str} (ha : Pu a ρ μ (.d (.str s))) (hb : Pu b ρ μ (.d (.str t))) (h : s.length + t.length ≤ 1000) : Pu (aOp fAdd a b) ρ μ (.d (.str (s ++ t))) := fun er Q q => ha er _ (hb er _ (And.intro h q))
theorem pu_strI {a : AX} {ρ : En} {μ : Sto} {i : Int} (ha : Pu a ρ μ (.d (.int i))) (h : i.natAbs.log2 < 1920) : Pu (aCB fStrI (aCons a aNil)) ρ μ (.d (.str ((toString i : String) : Str))) := fun er Q q => ha er _ (And.intro h q)
abbrev catB : ASt := (sSeq (sAsg (aIx (aTup (aCons (aC (.int 2)) (aCons (aC (.int 2)) (aCons (aC (.int 2)) (aCons (aC (.int 1)) (aCons (aC (.int 3)) (aCons (aC (.int 4)) aNil))))))) (aCall r_L_take (aCons (aVar 0) (aCons (aC (.int 6)) aNil)))) (gN 6))
    (sSeq (sIf (aAnd (aTest (aOp (fI pGt) (aVar 6) (aC (.int 2)))) (aTest (aOp (fI pGt) (aVar 2) (aC (.int 8))))) (sAsg (aC (.int 3)) (gN 6)) sNext)
    (sApp (aVar 4) (aTup (aCons (aOp fAdd (aIx (aC (.str "abcdefgh")) (aVar 5)) (aCB fStrI (aCons (aVar 6) aNil))) (aCons (aVar 6) (aCons (aCall r_L_rows (aCons (aVar 0) (aCons (aVar 6) (aCons (aVar 2) (aCons (aVar 3) aNil))))) aNil)))))))
theorem abc_at : ∀ k : Nat, k < 3 → atI ("abcdefgh" : Str).cps.toList (k : Int) = some (97 + k)
  | 0, _ => by decide +kernel
  | 1, _ => by decide +kernel
  | 2, _ => by decide +kernel
  | k + 3, h => by omega
theorem six_at {μ : Sto} {Q : Cl → Sto → Prop} (v : Int) (h0 : 0 ≤ v) (h6 : v < 6) (h : ∀ n : Int, 1 ≤ n → n ≤ 4 → Q (.d (.int n)) μ) : fIx (.d (.tuple [.int 2, .int 2, .int 2, .int 1, .int 3, .int 4])) (.d (.int v)) μ Q := by
  rcases (show v = 0 ∨ v = 1 ∨ v = 2 ∨ v = 3 ∨ v = 4 ∨ v = 5 by omega) with rfl | rfl | rfl | rfl | rfl | rfl
  · exact h 2 (by decide) (by decide)
  · exact h 2 (by decide) (by decide)
  · exact h 2 (by decide) (by decide)
  · exact h 1 (by decide) (by decide)
  · exact h 3 (by decide) (by decide)
  · exact h 4 (by decide) (by decide)
theorem len_toStr : ∀ n : Int, 1 ≤ n → n ≤ 4 → (((toString n : String) : Str)).length = 1 := by
  intro n h1 h4
  rcases (show n = 1 ∨ n = 2 ∨ n = 3 ∨ n = 4 by omega) with rfl | rfl | rfl | rfl <;> decide +kernel
theorem cat_loop {j : Nat} {μ : Sto} {st : Sto → Prop} {Z : AD} {m : Nat} (hm : m ≤ 3) (hj : j < μ.length) (hs : ∀ μ, st μ)
    (hZ : ∀ (T : List Tb) o o5 o6, DrawO o → T.length = m → (∀ (k : Nat) t, T[k]? = some t → t.nm = nameOf k t.cols ∧ (1 ≤ t.cols ∧ t.cols ≤ 4) ∧ RowsOk t.cols 7 4 t.rows) → Z.nx [some (.m j), some (.d (.int 3)), some (.d (.int 7)), some (.d (.int 4)), some (.m μ.length), o5, o6] (S j μ [.lst (T.map fun t => .d (dTb t))] o)) :
    ∀ (q i : Nat) (T : List Tb) (o : MO) (o5 o6 : Option Cl), i + q = m → DrawO o → T.length = i → (∀ (k : Nat) t, T[k]? = some t → t.nm = nameOf k t.cols ∧ (1 ≤ t.cols ∧ t.cols ≤ 4) ∧ RowsOk t.cols 7 4 t.rows) →
      forL (gN 5) catB st Z ((List.range' i q).map fun i => Cl.d (.int (i : Nat))) [some (.m j), some (.d (.int 3)), some (.d (.int 7)), some (.d (.int 4)), some (.m μ.length), o5, o6] (S j μ [.lst (T.map fun t => .d (dTb t))] o)
  | 0, i, T, o, o5, o6, e, ho, hl, hT => ⟨hs _, hZ T o o5 o6 ho (by omega) hT⟩
  | q + 1, i, T, o, o5, o6, e, ho, hl, hT => by
    rw [List.range'_succ]
    refine ⟨hs _, ?_⟩
    have p6 : Pu (aTup (aCons (aC (.int 2)) (aCons (aC (.int 2)) (aCons (aC (.int 2)) (aCons (aC (.int 1)) (aCons (aC (.int 3)) (aCons (aC (.int 4)) aNil))))))) [some (.m j), some (.d (.int 3)), some (.d (.int 7)), some (.d (.int 4)), some (.m μ.length), some (.d (.int (i : Nat))), o6] (S j μ [.lst (T.map fun t => .d (dTb t))] o) (.d (.tuple [.int 2, .int 2, .int 2, .int 1, .int 3, .int 4])) := fun er Q q => And.intro (Nat.le_of_ble_eq_true rfl) q
    refine i_sasgN (i_ixB p6 (i_takeS (n := 6) hj ho (pu_var rfl) pu_c (by omega) (by omega) fun v o' v0 v6 ho' => six_at v v0 v6 fun n n1 n4 => ?_))
    have q2 : Pu (aVar 2) [some (.m j), some (.d (.int 3)), some (.d (.int 7)), some (.d (.int 4)), some (.m μ.length), some (.d (.int (i : Nat))), some (.d (.int n))] (S j μ [.lst (T.map fun t => .d (dTb t))] o') (.d (.int 7)) := pu_var rfl
    have q6 : Pu (aVar 6) [some (.m j), some (.d (.int 3)), some (.d (.int 7)), some (.d (.int 4)), some (.m μ.length), some (.d (.int (i : Nat))), some (.d (.int n))] (S j μ [.lst (T.map fun t => .d (dTb t))] o') (.d (.int n)) := pu_var rfl
    have q5 : Pu (aVar 5) [some (.m j), some (.d (.int 3)), some (.d (.int 7)), some (.d (.int 4)), some (.m μ.length), some (.d (.int (i : Nat))), some (.d (.int n))] (S j μ [.lst (T.map fun t => .d (dTb t))] o') (.d (.int (i : Nat))) := pu_var rfl
    refine i_sifN (put_and (put (pu_I (p := pGt) q6 (pu_c (d := .int 2)))) fun _ => put (pu_I (p := pGt) q2 (pu_c (d := .int 8)))) (fun hk => ?_) (fun _ => ?_)
    · have e8 : pGt 7 8 = false := by decide
      rw [e8, Bool.and_false] at hk
      cases hk
    have hF : (S j μ [.lst (T.map fun t => .d (dTb t))] o')[μ.length]? = some (.lst (T.map fun t => .d (dTb t))) := S_at (k := 0) rfl
    have pn : Pu (aOp fAdd (aIx (aC (.str "abcdefgh")) (aVar 5)) (aCB fStrI (aCons (aVar 6) aNil))) [some (.m j), some (.d (.int 3)), some (.d (.int 7)), some (.d (.int 4)), some (.m μ.length), some (.d (.int (i : Nat))), some (.d (.int n))] (S j μ [.lst (T.map fun t => .d (dTb t))] o') (.d (.str (nameOf i n))) :=
      pu_addS (pu_ixS (pu_c (d := .str "abcdefgh")) q5 (by decide +kernel) (abc_at i (by omega))) (pu_strI q6 (by
        rcases (show n = 1 ∨ n = 2 ∨ n = 3 ∨ n = 4 by omega) with rfl | rfl | rfl | rfl <;> decide)) (by rw [len_toStr n n1 n4]; exact Nat.le_of_ble_eq_true rfl)
    have hc : ∀ (er' : Er) (K : Cl → Sto → Prop), (∀ rows o'', RowsOk n 7 4 rows → DrawO o'' → K (.d (.tuple (rows.map dL))) (S j μ [.lst (T.map fun t => .d (dTb t))] o'')) → aCall r_L_rows (aCons (aVar 0) (aCons (aVar 6) (aCons (aVar 2) (aCons (aVar 3) aNil)))) er' [some (.m j), some (.d (.int 3)), some (.d (.int 7)), some (.d (.int 4)), some (.m μ.length), some (.d (.int (i : Nat))), some (.d (.int n))] (S j μ [.lst (T.map fun t => .d (dTb t))] o') K := by
      intro er' K hK
      refine i_call4 (R := r_L_rows) (c1 := .m j) (c4 := .d (.int 4)) (pu_var (i := 0) rfl) q6 q2 (pu_var (i := 3) rfl) ?_
      exact ⟨j, n, 7, 4, o', rfl, S_get hj, ho', n1, by omega, by omega, by omega, by omega, by omega, fun rows o'' hr ho'' => by rw [S_set hj]; exact hK rows o'' hr ho''⟩
    refine i_app (f := μ.length) (pu_var (i := 4) rfl) hF (i_tup3c pn q6 (hc _ _ fun rows o'' hr ho'' => ?_))
    refine And.intro (Nat.le_of_ble_eq_true rfl) ?_
    have hF2 : (S j μ [.lst (T.map fun t => .d (dTb t))] o'')[μ.length]? = some (.lst (T.map fun t => .d (dTb t))) := S_at (k := 0) rfl
    rw [hF2]
    refine And.intro (by rw [List.length_map]; omega) ?_
    have e1 : (S j μ [.lst (T.map fun t => .d (dTb t))] o'').set μ.length (.lst ((T.map fun t => Cl.d (dTb t)) ++ [.d (.tuple [.str (nameOf i n), .int n, .tuple (rows.map dL)])])) = S j μ [.lst ((T ++ [Tb.mk (nameOf i n) n rows]).map fun t => .d (dTb t))] o'' := by
      have := S_setL (j := j) (μ := μ) (L := [.lst (T.map fun t => .d (dTb t))]) (o := o'') (k := 0) (x := .lst ((T.map fun t => Cl.d (dTb t)) ++ [.d (.tuple [.str (nameOf i n), .int n, .tuple (rows.map dL)])]))
      rw [Nat.add_zero] at this
      rw [this]
      simp
    rw [e1]
    refine cat_loop hm hj hs hZ q (i + 1) (T ++ [Tb.mk (nameOf i n) n rows]) o'' _ _ (by omega) ho'' (by simp; omega) fun k t hk => ?_
    by_cases hkl : k < T.length
    · rw [List.getElem?_append_left hkl] at hk; exact hT k t hk
    · have hk' : k = T.length := by
        have := (List.getElem?_eq_some_iff.mp hk).1
        simp at this; omega
      subst hk'
      simp at hk
      subst hk
      rw [hl]
      exact ⟨rfl, ⟨n1, n4⟩, hr⟩
theorem h_L_catalogue (cs : List Cl) (μ : Sto) (A : Cl → Sto → Prop) (er : Er) (h : r_L_catalogue cs μ A er) : a_L_catalogue r_L_rows r_L_take (bodyD μ A er) (startE ns_L_catalogue cs) μ := by
  obtain ⟨j, o, rfl, hj, ho, h⟩ := h
  show a_L_catalogue _ _ _ [some (.m j), some (.d (.int 3)), some (.d (.int 7)), some (.d (.int 4)), none, none, none] μ
  have lj := at_lt hj
  refine i_sown0 ?_
  have e0 : μ ++ [MO.lst []] = S j μ [.lst []] o := by
    have := S_nil hj
    rw [this, S_app]
    rw [← this]; rfl
  rw [e0]
  refine i_sfor ?_
  have go : ∀ (n : Int) (K : List Cl → (Sto → Prop) → Sto → Prop), (∀ (v : Int) o', 0 ≤ v → v < 3 → DrawO o' → K (rgC 0 (1 + v).toNat) (fun _ => True) (S j μ [.lst []] o')) → aRg1 (aCons (aOp fAdd (aC (.int 1)) (aCall r_L_take (aCons (aVar 0) (aCons (aVar 1) aNil)))) aNil) (bodyD μ A er).er [some (.m j), some (.d (.int 3)), some (.d (.int 7)), some (.d (.int 4)), some (.m μ.length), none, none] (S j μ [.lst []] o) K := by
    intro n K hK
    refine i_takeS (n := 3) lj ho (pu_var rfl) (pu_var (i := 1) rfl) (by omega) (by omega) fun v o' v0 v3 ho' => ?_
    exact And.intro (by omega) (And.intro (by omega) (hK v o' v0 v3 ho'))
  refine go 0 _ fun v o' v0 v3 ho' => ?_
  rw [rgC0, List.range_eq_range']
  refine cat_loop (m := (1 + v).toNat) (by omega) lj (fun _ => trivial) (fun T o'' o5 o6 ho'' hl hT => ?_) (1 + v).toNat 0 [] o' none none (by omega) ho' rfl (fun k t hk => by simp at hk)
  have hF : (S j μ [.lst (T.map fun t => .d (dTb t))] o'')[μ.length]? = some (.lst (T.map fun t => .d (dTb t))) := S_at (k := 0) rfl
  exact i_ret (D := bodyD μ A er) (ρ := [some (.m j), some (.d (.int 3)), some (.d (.int 7)), some (.d (.int 4)), some (.m μ.length), o5, o6]) (pu_tupC (pu_var (i := 4) rfl) (cells_m hF) (ds := T.map dTb) (by rw [List.map_map]; rfl)) (fin_S ho'' (h T o'' ⟨by omega, by omega, hT⟩ ho''))
end Jh

set_option Elab.async false
set_option linter.all false
set_option maxRecDepth 100000
set_option maxHeartbeats 4000000
namespace Jh
open PySem PySem.Spec PyProof.Rows L2
/-! ### _law_shuffled -/
theorem pu_slLTo {a b : AX} {ρ : En} {μ : Sto} {ds : List PyData} {k : Nat} (ha : Pu a ρ μ (.d (.list ds))) (hb : Pu b ρ μ (.d (.int (k : Nat)))) : Pu (aFrz (aSlL a aNoP (aSomeP b))) ρ μ (.d (.list (ds.take k))) := fun er Q q => ha er _ (hb er _ (by
  show match allD (cutA (ds.map Cl.d) none (some (k : Int))) with | some ds => Q (.d (.list ds)) μ | none => False
  rw [cutA_take, ← List.map_take, allD_map]; exact q))
theorem pu_slLFrom {a b : AX} {ρ : En} {μ : Sto} {ds : List PyData} {k : Nat} (ha : Pu a ρ μ (.d (.list ds))) (hb : Pu b ρ μ (.d (.int (k : Nat)))) : Pu (aFrz (aSlL a (aSomeP b) aNoP)) ρ μ (.d (.list (ds.drop k))) := fun er Q q => ha er _ (hb er _ (by
  show match allD (cutA (ds.map Cl.d) (some (k : Int)) none) with | some ds => Q (.d (.list ds)) μ | none => False
  rw [cutA_drop, ← List.map_drop, allD_map]; exact q))
theorem pu_listD {a : AX} {ρ : En} {μ : Sto} {d : PyData} {l : List PyData} (ha : Pu a ρ μ (.d d)) (hd : SeqD d l) : Pu (aFrz (aCBL fList (aCons a aNil))) ρ μ (.d (.list l)) := fun er Q q => ha er _ (by
  show match cellsOf (.d d) μ with | some xs => (match allD xs with | some ds => Q (.d (.list ds)) μ | none => False) | none => False
  rw [seqD_cells hd]
  show match allD (l.map .d) with | some ds => Q (.d (.list ds)) μ | none => False
  rw [allD_map]; exact q)
def r_L_shuffled : RS := fun cs μ A _ => ∃ (j : Nat) (o : MO) (vs : List Str), cs = [.m j, .d (dS vs)] ∧ μ[j]? = some o ∧ DrawO o ∧ vs.length ≤ 100 ∧ ∀ (l : List Str) o', l.Perm vs → DrawO o' → A (.d (dS l)) (μ.set j o')
theorem S_own {j : Nat} {μ L : Sto} {o : MO} {x y : MO} (h : L = [x]) : (S j μ L o).set μ.length y = S j μ [y] o := by
  subst h
  have := S_setL (j := j) (μ := μ) (L := [x]) (o := o) (k := 0) (x := y)
  rw [Nat.add_zero] at this
  exact this
theorem perm_take (l : List Str) (k : Nat) (x : Str) (h : l[k]? = some x) : ([x] ++ (l.take k ++ l.drop (k + 1))).Perm l := by
  have hk := (List.getElem?_eq_some_iff.mp h)
  have e : l = l.take k ++ x :: l.drop (k + 1) := by
    conv => lhs; rw [← List.take_append_drop k l]
    rw [← hk.2, List.drop_eq_getElem_cons hk.1]
  rw [List.singleton_append]
  conv => rhs; rw [e]
  exact List.perm_middle.symm
theorem shuf_loop {j : Nat} {μ : Sto} {vs : List Str} {st : Sto → Prop} {Z : AD} (hj : j < μ.length) (h100 : vs.length ≤ 100) (hs : ∀ μ, st μ) (hZ : ∀ (l : List Str) o o2 o4 o5, l.Perm vs → DrawO o → Z.nx [some (.m j), some (.d (dS vs)), o2, some (.m μ.length), o4, o5] (S j μ [.lst (sL l)] o)) :
    ∀ (xs : List Cl) (F Lf : List Str) (o : MO) (o4 o5 : Option Cl), Lf.length = xs.length → (F ++ Lf).Perm vs → DrawO o →
      forL (gN 4) (sSeq (sAsg (aCall r_L_take (aCons (aVar 0) (aCons (aCB fLen (aCons (aVar 2) aNil)) aNil))) (gN 5))
    (sSeq (sApp (aVar 3) (aIx (aVar 2) (aVar 5)))
    (sAsg (aFrz (aCat (aFrz (aSlL (aVar 2) aNoP (aSomeP (aVar 5)))) (aFrz (aSlL (aVar 2) (aSomeP (aOp fAdd (aVar 5) (aC (.int 1)))) aNoP)))) (gN 2)))) st Z xs [some (.m j), some (.d (dS vs)), some (.d (.list (Lf.map .str))), some (.m μ.length), o4, o5] (S j μ [.lst (sL F)] o)
  | [], F, Lf, o, o4, o5, hl, hp, ho => by
    have : Lf = [] := List.eq_nil_of_length_eq_zero hl
    subst this
    rw [List.append_nil] at hp
    exact ⟨hs _, hZ F o _ o4 o5 hp ho⟩
  | x :: xs, F, Lf, o, o4, o5, hl, hp, ho => by
    simp only [List.length_cons] at hl
    have hpl := hp.length_eq
    simp only [List.length_append] at hpl
    refine ⟨hs _, ?_⟩
    have p2 : Pu (aVar 2) [some (.m j), some (.d (dS vs)), some (.d (.list (Lf.map .str))), some (.m μ.length), some x, o5] (S j μ [.lst (sL F)] o) (.d (.list (Lf.map .str))) := pu_var rfl
    have pl := pu_lenD p2 (l := Lf.map PyData.str) (.inl rfl)
    rw [List.length_map] at pl
    refine i_sasgN (i_takeS (n := (Lf.length : Nat)) hj ho (pu_var rfl) pl (by omega) (by omega) fun v o' v0 vn ho' => ?_)
    obtain ⟨k, rfl⟩ := Int.eq_ofNat_of_zero_le v0
    have hk : k < Lf.length := by omega
    have gk : Lf[k]? = some Lf[k] := List.getElem?_eq_getElem hk
    generalize Lf[k] = y at gk
    have q2 : Pu (aVar 2) [some (.m j), some (.d (dS vs)), some (.d (.list (Lf.map .str))), some (.m μ.length), some x, some (.d (.int (k : Nat)))] (S j μ [.lst (sL F)] o') (.d (.list (Lf.map .str))) := pu_var rfl
    have q5 : Pu (aVar 5) [some (.m j), some (.d (dS vs)), some (.d (.list (Lf.map .str))), some (.m μ.length), some x, some (.d (.int (k : Nat)))] (S j μ [.lst (sL F)] o') (.d (.int (k : Nat))) := pu_var rfl
    have q3 : Pu (aVar 3) [some (.m j), some (.d (dS vs)), some (.d (.list (Lf.map .str))), some (.m μ.length), some x, some (.d (.int (k : Nat)))] (S j μ [.lst (sL F)] o') (.m μ.length) := pu_var rfl
    have hF : (S j μ [.lst (sL F)] o')[μ.length]? = some (.lst (sL F)) := S_at (k := 0) rfl
    refine i_sappP q3 hF (c := .d (.str y)) (pu_ixD q2 q5 (l := Lf.map PyData.str) (.inl rfl) (by rw [List.getElem?_map, gk]; rfl)) (by rw [List.length_map]; omega) ?_
    rw [S_own rfl, show (sL F ++ [Cl.d (.str y)]) = sL (F ++ [y]) by simp]
    have r2 : Pu (aVar 2) [some (.m j), some (.d (dS vs)), some (.d (.list (Lf.map .str))), some (.m μ.length), some x, some (.d (.int (k : Nat)))] (S j μ [.lst (sL (F ++ [y]))] o') (.d (.list (Lf.map .str))) := pu_var rfl
    have r5 : Pu (aVar 5) [some (.m j), some (.d (dS vs)), some (.d (.list (Lf.map .str))), some (.m μ.length), some x, some (.d (.int (k : Nat)))] (S j μ [.lst (sL (F ++ [y]))] o') (.d (.int (k : Nat))) := pu_var rfl
    have r51 : Pu (aOp fAdd (aVar 5) (aC (.int 1))) [some (.m j), some (.d (dS vs)), some (.d (.list (Lf.map .str))), some (.m μ.length), some x, some (.d (.int (k : Nat)))] (S j μ [.lst (sL (F ++ [y]))] o') (.d (.int ((k + 1 : Nat) : Int))) := by
      have := pu_add r5 (pu_c (d := .int 1)); rw [Int.natCast_add]; exact this
    have pc := pu_cat (pu_slLTo r2 r5) (pu_slLFrom r2 r51) rfl rfl (ds := ((Lf.take k ++ Lf.drop (k + 1)).map PyData.str)) (by simp; omega) (by simp)
    refine i_set pc ?_
    refine shuf_loop hj h100 hs hZ xs (F ++ [y]) (Lf.take k ++ Lf.drop (k + 1)) o' _ _ (by simp; omega) ?_ ho'
    refine List.Perm.trans ?_ hp
    rw [List.append_assoc]
    exact List.Perm.append_left F (perm_take Lf k y gk)
theorem own_S {j : Nat} {μ : Sto} {o : MO} (hj : μ[j]? = some o) : μ ++ [MO.lst []] = S j μ [.lst []] o := by
  have := S_nil hj
  rw [this, S_app]
  rw [← this]; rfl
theorem h_L_shuffled (cs : List Cl) (μ : Sto) (A : Cl → Sto → Prop) (er : Er) (h : r_L_shuffled cs μ A er) : a_L_shuffled r_L_take (bodyD μ A er) (startE ns_L_shuffled cs) μ := by
  obtain ⟨j, o, vs, rfl, hj, ho, hl, h⟩ := h
  show a_L_shuffled _ _ [some (.m j), some (.d (dS vs)), none, none, none, none] μ
  have lj := at_lt hj
  refine i_sset (pu_listD (d := dS vs) (l := vs.map PyData.str) (pu_var rfl) (.inr rfl)) ?_
  refine i_sown0 ?_
  rw [own_S hj]
  have p1 : Pu (aVar 1) [some (.m j), some (.d (dS vs)), some (.d (.list (vs.map PyData.str))), some (.m μ.length), none, none] (S j μ [.lst []] o) (.d (dS vs)) := pu_var rfl
  have pl := pu_lenD p1 (l := vs.map PyData.str) (.inr rfl)
  rw [List.length_map] at pl
  refine i_sfor (i_rg1 pl (by omega) ?_)
  refine shuf_loop lj hl (fun _ => trivial) (fun l o' o2 o4 o5 hp ho' => ?_) (rgC 0 vs.length) [] vs o none none (by rw [rgC_len]) (by simp) ho
  have hF : (S j μ [.lst (sL l)] o')[μ.length]? = some (.lst (sL l)) := S_at (k := 0) rfl
  exact i_ret (D := bodyD μ A er) (ρ := [some (.m j), some (.d (dS vs)), o2, some (.m μ.length), o4, o5]) (pu_tupC (pu_var (i := 3) rfl) (cells_m hF) (sL_D l)) (fin_S ho' (h l o' hp ho'))
end Jh

set_option Elab.async false
set_option linter.all false
set_option maxRecDepth 100000
set_option maxHeartbeats 4000000
namespace Jh
open PySem PySem.Spec PyProof.Rows L2
/-! ### _law_pattern -/
abbrev NM : List Str := ["x", "y", "z", "u", "v", "w"]
structure PatOk (c : List Tb) (hd : List Str) (as : List Atom) : Prop where
  n1 : 1 ≤ as.length
  n4 : as.length ≤ 4
  at_ : ∀ a ∈ as, ∃ t ∈ c, a.1 = t.nm ∧ (a.2.length : Int) = t.cols ∧ ∀ v ∈ a.2, v ∈ NM.take 4
  hv : ∀ v ∈ hd, v ∈ varsOf as
  nd : hd.Nodup
  hl : hd.length ≤ 100
def r_L_pattern : RS := fun cs μ A _ => ∃ (j : Nat) (o : MO) (c : List Tb), cs = [.m j, .d (dCat c), .d (.int 4), .d (.int 4)] ∧ μ[j]? = some o ∧ DrawO o ∧ CatOk c ∧ ∀ hd as o', PatOk c hd as → DrawO o' → A (.d (dPat hd as)) (μ.set j o')
theorem i_slLC {a e : AX} {ρ : En} {μ : Sto} {ds : List PyData} {er : Er} {Q : Cl → Sto → Prop} (ha : Pu a ρ μ (.d (.list ds))) (h : e er ρ μ fun c μ1 => match c with
  | .d (.int i) => (match allD (cutA (ds.map Cl.d) none (some i)) with
    | some ds => Q (.d (.list ds)) μ1
    | none => False)
  | _ => False) : aFrz (aSlL a aNoP (aSomeP e)) er ρ μ Q := by
  refine ha er _ ?_
  show e er ρ μ (fun c μ1 => match c with
  | .d (.int i) => (match allD (cutA (ds.map Cl.d) none (some i)) with
    | some ds => Q (.d (.list ds)) μ1
    | none => False)
  | _ => False)
  exact h
theorem i_addC1 {e : AX} {ρ : En} {μ : Sto} {i : Int} {er : Er} {Q : Cl → Sto → Prop} (h : e er ρ μ fun y μ1 => fAdd (.d (.int i)) y μ1 Q) : aOp fAdd (aC (.int i)) e er ρ μ Q := h
abbrev patB : ASt := (sSeq (sAsg (aIx (aVar 1) (aCall r_L_take (aCons (aVar 0) (aCons (aCB fLen (aCons (aVar 1) aNil)) aNil)))) (gN 7))
    (sApp (aVar 5) (aTup (aCons (aIx (aVar 7) (aC (.int 0))) (aCons (aCB fTup (aCons (aFrz (aLc 12 [12] (aRg1 (aCons (aIx (aVar 7) (aC (.int 1))) aNil)) aYes (aIx (aVar 4) (aCall r_L_take (aCons (aVar 0) (aCons (aCB fLen (aCons (aVar 4) aNil)) aNil)))))) aNil)) aNil)))))
def AtOk (c : List Tb) (nm : List Str) (a : Atom) : Prop := ∃ t ∈ c, a.1 = t.nm ∧ (a.2.length : Int) = t.cols ∧ ∀ v ∈ a.2, v ∈ nm
theorem pat_loop {j : Nat} {μ : Sto} {c : List Tb} {nm : List Str} {st : Sto → Prop} {Z : AD} (hj : j < μ.length) (hc : CatOk c) (n1 : 1 ≤ nm.length) (n4 : nm.length ≤ 6) (hs : ∀ μ, st μ)
    (hZ : ∀ (as : List Atom) o o6 o7, DrawO o → 1 ≤ as.length → as.length ≤ 4 → (∀ a ∈ as, AtOk c nm a) → Z.nx [some (.m j), some (.d (dCat c)), some (.d (.int 4)), some (.d (.int 4)), some (.d (.list (nm.map .str))), some (.m μ.length), o6, o7, none, none, none, none, none] (S j μ [.lst (as.map fun a => .d (dAtom a))] o)) :
    ∀ (xs : List Cl) (as : List Atom) (o : MO) (o6 o7 : Option Cl), 1 ≤ as.length + xs.length → as.length + xs.length ≤ 4 → DrawO o → (∀ a ∈ as, AtOk c nm a) →
      forL (gN 6) patB st Z xs [some (.m j), some (.d (dCat c)), some (.d (.int 4)), some (.d (.int 4)), some (.d (.list (nm.map .str))), some (.m μ.length), o6, o7, none, none, none, none, none] (S j μ [.lst (as.map fun a => .d (dAtom a))] o)
  | [], as, o, o6, o7, h1, h4, ho, ha => ⟨hs _, hZ as o o6 o7 ho (by simpa using h1) (by simpa using h4) ha⟩
  | x :: xs, as, o, o6, o7, h1, h4, ho, ha => by
    simp only [List.length_cons] at h1 h4
    refine ⟨hs _, ?_⟩
    have c1 := hc.l1
    have c3 := hc.l3
    have p1 : Pu (aVar 1) [some (.m j), some (.d (dCat c)), some (.d (.int 4)), some (.d (.int 4)), some (.d (.list (nm.map .str))), some (.m μ.length), some x, o7, none, none, none, none, none] (S j μ [.lst (as.map fun a => .d (dAtom a))] o) (.d (dCat c)) := pu_var rfl
    have pl := pu_lenD p1 (l := c.map dTb) (.inr rfl)
    rw [List.length_map] at pl
    refine i_sasgN (i_ixB p1 (i_takeS (n := (c.length : Nat)) hj ho (pu_var rfl) pl (by omega) (by omega) fun v o' v0 vn ho' => ?_))
    obtain ⟨k, rfl⟩ := Int.eq_ofNat_of_zero_le v0
    have hk : k < c.length := by omega
    have gk : c[k]? = some c[k] := List.getElem?_eq_getElem hk
    have tm : c[k] ∈ c := List.getElem_mem hk
    obtain ⟨_, tc, _⟩ := hc.tb k _ gk
    generalize c[k] = t at gk tm tc
    have ix : atI ((c.map dTb).map Cl.d) (k : Int) = some (.d (dTb t)) := atI_nat (by rw [List.getElem?_map, List.getElem?_map, gk]; rfl)
    show match atI ((c.map dTb).map Cl.d) (k : Int) with | some c => _ | none => False
    rw [ix]
    have q7 : Pu (aVar 7) [some (.m j), some (.d (dCat c)), some (.d (.int 4)), some (.d (.int 4)), some (.d (.list (nm.map .str))), some (.m μ.length), some x, some (.d (dTb t)), none, none, none, none, none] (S j μ [.lst (as.map fun a => .d (dAtom a))] o') (.d (dTb t)) := pu_var rfl
    have hF : ∀ o', (S j μ [.lst (as.map fun a => .d (dAtom a))] o')[μ.length]? = some (.lst (as.map fun a => .d (dAtom a))) := fun o' => S_at (k := 0) rfl
    have pn : Pu (aIx (aVar 7) (aC (.int 0))) [some (.m j), some (.d (dCat c)), some (.d (.int 4)), some (.d (.int 4)), some (.d (.list (nm.map .str))), some (.m μ.length), some x, some (.d (dTb t)), none, none, none, none, none] (S j μ [.lst (as.map fun a => .d (dAtom a))] o') (.d (.str t.nm)) := pu_ixD (i := 0) q7 pu_c (l := [.str t.nm, .int t.cols, .tuple (t.rows.map dL)]) (.inr rfl) rfl
    have pcol : Pu (aIx (aVar 7) (aC (.int 1))) [some (.m j), some (.d (dCat c)), some (.d (.int 4)), some (.d (.int 4)), some (.d (.list (nm.map .str))), some (.m μ.length), some x, some (.d (dTb t)), none, none, none, none, none] (S j μ [.lst (as.map fun a => .d (dAtom a))] o') (.d (.int t.cols)) := pu_ixD (i := 1) q7 pu_c (l := [.str t.nm, .int t.cols, .tuple (t.rows.map dL)]) (.inr rfl) rfl
    have body : ∀ K : Cl → Sto → Prop, (∀ vs o'', (vs.length : Int) = t.cols → (∀ v ∈ vs, v ∈ nm) → DrawO o'' → K (.d (dS vs)) (S j μ [.lst (as.map fun a => .d (dAtom a))] o'')) →
        ∀ er' : Er, aCB fTup (aCons (aFrz (aLc 12 [12] (aRg1 (aCons (aIx (aVar 7) (aC (.int 1))) aNil)) aYes (aIx (aVar 4) (aCall r_L_take (aCons (aVar 0) (aCons (aCB fLen (aCons (aVar 4) aNil)) aNil)))))) aNil) er' [some (.m j), some (.d (dCat c)), some (.d (.int 4)), some (.d (.int 4)), some (.d (.list (nm.map .str))), some (.m μ.length), some x, some (.d (dTb t)), none, none, none, none, none] (S j μ [.lst (as.map fun a => .d (dAtom a))] o') K := by
      intro K hK er'
      refine i_tupLc (i_rg1I (n := t.cols) pcol (by omega) (by omega) ?_)
      refine lcL_take (n := (nm.length : Nat)) (f := fun v => .d (.str (nm.getD v.toNat ""))) (fun _ => trivial) (fun y o2 Q' ho2 h => ?_) (rgC 0 t.cols.toNat) [] o' ho' (by rw [rgC_len]; simp; omega) fun vs o'' l1 l2 ho'' => ?_
      · have r4 : Pu (aVar 4) [some (.m j), some (.d (dCat c)), some (.d (.int 4)), some (.d (.int 4)), some (.d (.list (nm.map .str))), some (.m μ.length), some x, some (.d (dTb t)), none, none, none, none, some y] (S j μ [.lst (as.map fun a => .d (dAtom a))] o2) (.d (.list (nm.map .str))) := pu_var rfl
        have rl := pu_lenD r4 (l := nm.map PyData.str) (.inl rfl)
        rw [List.length_map] at rl
        refine i_ixB r4 (i_takeS (n := (nm.length : Nat)) hj ho2 (pu_var rfl) rl (by omega) (by omega) fun w o3 w0 wn ho3 => ?_)
        obtain ⟨z, rfl⟩ := Int.eq_ofNat_of_zero_le w0
        have gz : nm[z]? = some (nm.getD z "") := by rw [List.getD_eq_getElem?_getD, List.getElem?_eq_getElem (by omega)]; rfl
        have iz : atI ((nm.map PyData.str).map Cl.d) (z : Int) = some (.d (.str (nm.getD z ""))) := atI_nat (by rw [List.getElem?_map, List.getElem?_map, gz]; rfl)
        show match atI ((nm.map PyData.str).map Cl.d) (z : Int) with | some c => Q' c _ | none => False
        rw [iz]
        have := h (z : Int) o3 w0 wn ho3
        rw [Int.toNat_natCast] at this
        exact this
      · rw [rgC_len] at l1
        refine end_tupLc (ds := (vs.map fun v => nm.getD v.toNat "").map PyData.str) (by rw [List.map_map, List.map_map]; rfl) (hK _ o'' (by rw [List.length_map]; omega) (fun v hv => ?_) ho'')
        obtain ⟨w, hw, rfl⟩ := List.mem_map.mp hv
        have := l2 w hw
        rw [List.getD_eq_getElem?_getD, List.getElem?_eq_getElem (show w.toNat < nm.length by omega)]
        exact List.getElem_mem _
    refine i_app (f := μ.length) (pu_var (i := 5) rfl) (hF o') (i_tup2c pn (body _ (fun vs o'' l1 l2 ho'' => ?_) _))
    refine And.intro (Nat.le_of_ble_eq_true rfl) ?_
    rw [hF o'']
    refine And.intro (by rw [List.length_map]; omega) ?_
    rw [S_own rfl, show ((as.map fun a => Cl.d (dAtom a)) ++ [Cl.d (.tuple [.str t.nm, dS vs])]) = (as ++ [((t.nm, vs) : Atom)]).map fun a => Cl.d (dAtom a) by simp]
    refine pat_loop hj hc n1 n4 hs hZ xs (as ++ [((t.nm, vs) : Atom)]) o'' _ _ (by simp; omega) (by simp; omega) ho'' fun a hm => ?_
    rcases List.mem_append.mp hm with hm | hm
    · exact ha a hm
    · rw [List.mem_singleton.mp hm]
      exact ⟨t, tm, rfl, l1, l2⟩
theorem S_own2 {j : Nat} {μ : Sto} {o : MO} {x y z : MO} : (S j μ [x, y] o).set (μ.length + 1) z = S j μ [x, z] o := by
  have := S_setL (j := j) (μ := μ) (L := [x, y]) (o := o) (k := 1) (x := z)
  exact this
theorem i_ifAndT {t t2 : AT} {s v : ASt} {D : AD} {ρ : En} {μ : Sto} {k : Bool} (h : PuT t ρ μ k) (h1 : k = true → t2 D.er ρ μ fun b μ1 => match b with
  | true => s D ρ μ1
  | false => v D ρ μ1) (h2 : k = false → v D ρ μ) : sIf (aAnd t t2) s v D ρ μ := h D.er _ (by
  cases k with
  | true => exact h1 rfl
  | false => exact h2 rfl)
theorem i_tGt {e : AX} {ρ : En} {μ : Sto} {i : Int} {er : Er} {Q : Bool → Sto → Prop} (h : e er ρ μ fun x μ1 => fI pGt x (.d (.int i)) μ1 fun c μ2 => match c with
  | .d (.bool k) => Q k μ2
  | _ => False) : aTest (aOp (fI pGt) e (aC (.int i))) er ρ μ Q := h
abbrev hdB : ASt := (sSeq (sAsg (aIx (aVar 9) (aCall r_L_take (aCons (aVar 0) (aCons (aCB fLen (aCons (aVar 9) aNil)) aNil)))) (gN 11))
    (sIf (aAnd (aTest (aOp (fIn true) (aVar 11) (aVar 10))) (aTest (aOp (fI pGt) (aCall r_L_take (aCons (aVar 0) (aCons (aC (.int 3)) aNil))) (aC (.int 0))))) (sApp (aVar 10) (aVar 11)) sNext))
theorem hd_loop {j : Nat} {μ : Sto} {B : MO} {vs : List Str} {c1 c2 c3 c4 c5 c8 : Cl} {o7 : Option Cl} {st : Sto → Prop} {Z : AD} (hj : j < μ.length) (hvl : vs.length ≤ 100) (hs : ∀ μ, st μ)
    (hZ : ∀ (hd : List Str) o o6 o11, DrawO o → (∀ v ∈ hd, v ∈ vs) → hd.Nodup → hd.length ≤ 100 → Z.nx [some (.m j), some c1, some c2, some c3, some c4, some c5, o6, o7, some c8, some (.d (dS vs)), some (.m (μ.length + 1)), o11, none] (S j μ [B, .lst (sL hd)] o)) :
    ∀ (xs : List Cl) (hd : List Str) (o : MO) (o6 o11 : Option Cl), xs.length ≤ vs.length → hd.length + xs.length ≤ 100 → DrawO o → (∀ v ∈ hd, v ∈ vs) → hd.Nodup →
      forL (gN 6) hdB st Z xs [some (.m j), some c1, some c2, some c3, some c4, some c5, o6, o7, some c8, some (.d (dS vs)), some (.m (μ.length + 1)), o11, none] (S j μ [B, .lst (sL hd)] o)
  | [], hd, o, o6, o11, _, hl, ho, hv, nd => ⟨hs _, hZ hd o o6 o11 ho hv nd (by simpa using hl)⟩
  | x :: xs, hd, o, o6, o11, hx, hl, ho, hv, nd => by
    simp only [List.length_cons] at hx hl
    refine ⟨hs _, ?_⟩
    have p9 : Pu (aVar 9) [some (.m j), some c1, some c2, some c3, some c4, some c5, some x, o7, some c8, some (.d (dS vs)), some (.m (μ.length + 1)), o11, none] (S j μ [B, .lst (sL hd)] o) (.d (dS vs)) := pu_var rfl
    have pl := pu_lenD p9 (l := vs.map PyData.str) (.inr rfl)
    rw [List.length_map] at pl
    refine i_sasgN (i_ixB p9 (i_takeS (n := (vs.length : Nat)) hj ho (pu_var rfl) pl (by omega) (by omega) fun w o' w0 wn ho' => ?_))
    obtain ⟨z, rfl⟩ := Int.eq_ofNat_of_zero_le w0
    have gz : vs[z]? = some (vs.getD z "") := by rw [List.getD_eq_getElem?_getD, List.getElem?_eq_getElem (by omega)]; rfl
    have ym : vs.getD z "" ∈ vs := List.mem_of_getElem? gz
    have iz : atI ((vs.map PyData.str).map Cl.d) (z : Int) = some (.d (.str (vs.getD z ""))) := atI_nat (by rw [List.getElem?_map, List.getElem?_map, gz]; rfl)
    generalize vs.getD z "" = y at ym iz
    show match atI ((vs.map PyData.str).map Cl.d) (z : Int) with | some c => _ | none => False
    rw [iz]
    have q11 : ∀ o', Pu (aVar 11) [some (.m j), some c1, some c2, some c3, some c4, some c5, some x, o7, some c8, some (.d (dS vs)), some (.m (μ.length + 1)), some (.d (.str y)), none] (S j μ [B, .lst (sL hd)] o') (.d (.str y)) := fun o' => pu_var rfl
    have q10 : ∀ o', Pu (aVar 10) [some (.m j), some c1, some c2, some c3, some c4, some c5, some x, o7, some c8, some (.d (dS vs)), some (.m (μ.length + 1)), some (.d (.str y)), none] (S j μ [B, .lst (sL hd)] o') (.m (μ.length + 1)) := fun o' => pu_var rfl
    have hF : ∀ o', (S j μ [B, .lst (sL hd)] o')[μ.length + 1]? = some (.lst (sL hd)) := fun o' => S_at (k := 1) rfl
    have pi := pu_in (n := true) (ds := hd.map PyData.str) (q11 o') (q10 o') (cells_m (hF o')) (by rw [sL_D, allD_map]) (Nat.le_of_ble_eq_true rfl)
    rw [inD_str, neg_true] at pi
    have stay : ∀ o2, DrawO o2 → forL (gN 6) hdB st Z xs [some (.m j), some c1, some c2, some c3, some c4, some c5, some x, o7, some c8, some (.d (dS vs)), some (.m (μ.length + 1)), some (.d (.str y)), none] (S j μ [B, .lst (sL hd)] o2) := fun o2 ho2 => hd_loop hj hvl hs hZ xs hd o2 _ _ (by omega) (by omega) ho2 hv nd
    show sIf _ _ _ _ [some (.m j), some c1, some c2, some c3, some c4, some c5, some x, o7, some c8, some (.d (dS vs)), some (.m (μ.length + 1)), some (.d (.str y)), none] (S j μ [B, .lst (sL hd)] o')
    refine i_ifAndT (put pi) (fun hk => ?_) (fun hk => stay o' ho')
    have hy : ¬ y ∈ hd := by simpa using hk
    refine i_tGt (i_takeS (n := 3) hj ho' (pu_var rfl) pu_c (by omega) (by omega) fun u o2 u0 u3 ho2 => ?_)
    show match pGt u 0 with | true => _ | false => _
    cases pGt u 0 with
    | false => exact stay o2 ho2
    | true =>
      refine i_appP (q10 o2) (hF o2) (q11 o2) (by rw [List.length_map]; omega) ?_
      rw [S_own2, show (sL hd ++ [Cl.d (.str y)]) = sL (hd ++ [y]) by simp]
      refine hd_loop hj hvl hs hZ xs (hd ++ [y]) o2 _ _ (by omega) (by simp; omega) ho2 (fun v hm => ?_) ?_
      · rcases List.mem_append.mp hm with hm | hm
        · exact hv v hm
        · rw [List.mem_singleton.mp hm]; exact ym
      · rw [List.nodup_append]
        exact ⟨nd, by simp, fun a ha b hb => by rw [List.mem_singleton.mp hb]; exact fun e => hy (e ▸ ha)⟩
theorem i_app1 {j : Nat} {μ : Sto} {B : MO} {o : MO} : S j μ [B] o ++ [MO.lst []] = S j μ [B, .lst []] o := S_app
theorem S_len1 {j : Nat} {μ : Sto} {B : MO} {o : MO} : (S j μ [B] o).length = μ.length + 1 := S_len
theorem h_L_pattern (cs : List Cl) (μ : Sto) (A : Cl → Sto → Prop) (er : Er) (h : r_L_pattern cs μ A er) : a_L_pattern r_L_take r_all_variables (bodyD μ A er) (startE ns_L_pattern cs) μ := by
  obtain ⟨j, o, c, rfl, hj, ho, hc, h⟩ := h
  show a_L_pattern _ _ _ [some (.m j), some (.d (dCat c)), some (.d (.int 4)), some (.d (.int 4)), none, none, none, none, none, none, none, none, none] μ
  have lj := at_lt hj
  have e0 : μ = S j μ [] o := S_nil hj
  have pnm : Pu (aFrz (aLst (aCons (aC (.str "x")) (aCons (aC (.str "y")) (aCons (aC (.str "z")) (aCons (aC (.str "u")) (aCons (aC (.str "v")) (aCons (aC (.str "w")) aNil)))))))) [some (.m j), some (.d (dCat c)), some (.d (.int 4)), some (.d (.int 4)), none, none, none, none, none, none, none, none, none] (S j μ [] o) (.d (.list (NM.map .str))) := fun er Q q => And.intro (Nat.le_of_ble_eq_true rfl) q
  have main : a_L_pattern r_L_take r_all_variables (bodyD μ A er) [some (.m j), some (.d (dCat c)), some (.d (.int 4)), some (.d (.int 4)), none, none, none, none, none, none, none, none, none] (S j μ [] o) := by
    refine i_sasgN (i_slLC pnm (i_addC1 (i_takeS (n := 4) lj ho (pu_var rfl) (pu_var (i := 3) rfl) (by omega) (by omega) fun v o1 v0 v4 ho1 => ?_)))
    obtain ⟨k, rfl⟩ := Int.eq_ofNat_of_zero_le v0
    have ek : (1 + (k : Int)) = ((1 + k : Nat) : Int) := by omega
    show match allD (cutA ((NM.map PyData.str).map Cl.d) none (some (1 + (k : Int)))) with | some ds => _ | none => False
    rw [ek, cutA_take, ← List.map_take, ← List.map_take, allD_map]
    have hk4 : 1 + k ≤ 4 := by omega
    have nml : (NM.take (1 + k)).length = 1 + k := by rw [List.length_take]; show min (1 + k) 6 = _; omega
    have nmin : ∀ v, v ∈ NM.take (1 + k) → v ∈ NM.take 4 := fun v hv => by
      have : NM.take (1 + k) = (NM.take 4).take (1 + k) := by rw [List.take_take, Nat.min_eq_left hk4]
      rw [this] at hv
      exact List.mem_of_mem_take hv
    generalize NM.take (1 + k) = nm at nml nmin
    show sSeq (sAsg (aOwn (aLst aNil)) (gN 5)) _ _ [some (.m j), some (.d (dCat c)), some (.d (.int 4)), some (.d (.int 4)), some (.d (.list (nm.map .str))), none, none, none, none, none, none, none, none] (S j μ [] o1)
    refine i_sown0 ?_
    rw [S_app, S_len]
    refine i_sfor ?_
    have go : ∀ (K : List Cl → (Sto → Prop) → Sto → Prop), (∀ (v : Int) o', 0 ≤ v → v < 4 → DrawO o' → K (rgC 0 (1 + v).toNat) (fun _ => True) (S j μ [.lst []] o')) → aRg1 (aCons (aOp fAdd (aC (.int 1)) (aCall r_L_take (aCons (aVar 0) (aCons (aVar 2) aNil)))) aNil) (bodyD μ A er).er [some (.m j), some (.d (dCat c)), some (.d (.int 4)), some (.d (.int 4)), some (.d (.list (nm.map .str))), some (.m μ.length), none, none, none, none, none, none, none] (S j μ [.lst []] o1) K := by
      intro K hK
      refine i_takeS (n := 4) lj ho1 (pu_var rfl) (pu_var (i := 2) rfl) (by omega) (by omega) fun v o' v0 v4 ho' => ?_
      exact And.intro (by omega) (And.intro (by omega) (hK v o' v0 v4 ho'))
    refine go _ fun v o2 v0 v4 ho2 => ?_
    refine pat_loop lj hc (by omega) (by omega) (fun _ => trivial) (fun as o3 o6 o7 ho3 n1 n4 hat => ?_) (rgC 0 (1 + v).toNat) [] o2 none none (by rw [rgC_len]; simp; omega) (by rw [rgC_len]; simp; omega) ho2 (fun a ha => by cases ha)
    have hF : (S j μ [.lst (as.map fun a => .d (dAtom a))] o3)[μ.length]? = some (.lst (as.map fun a => .d (dAtom a))) := S_at (k := 0) rfl
    have al4 : ∀ a ∈ as, a.2.length ≤ 4 := fun a ha => by
      obtain ⟨t, tm, _, e, _⟩ := hat a ha
      obtain ⟨k, hk, e2⟩ := List.getElem_of_mem tm
      have := (hc.tb k t (by rw [← e2]; exact List.getElem?_eq_getElem hk)).2.1
      omega
    have lo : lenOf as ≤ 900 := by have := lenOf_le as al4; omega
    have vl : (varsOf as).length ≤ 100 := by have := varsOf_len as; have := lenOf_le as al4; omega
    have pt : Pu (aTup (aCons (aTup aNil) (aCons (aCB fTup (aCons (aVar 5) aNil)) aNil))) [some (.m j), some (.d (dCat c)), some (.d (.int 4)), some (.d (.int 4)), some (.d (.list (nm.map .str))), some (.m μ.length), o6, o7, none, none, none, none, none] (S j μ [.lst (as.map fun a => .d (dAtom a))] o3) (.d (dPat [] as)) :=
      pu_tup2 (d1 := .tuple []) pu_tup0 (pu_tupC (pu_var (i := 5) rfl) (cells_m hF) (ds := as.map dAtom) (by rw [List.map_map]; rfl))
    show sSeq (sAsg (aTup (aCons (aTup aNil) (aCons (aCB fTup (aCons (aVar 5) aNil)) aNil))) (gN 8)) _ _ [some (.m j), some (.d (dCat c)), some (.d (.int 4)), some (.d (.int 4)), some (.d (.list (nm.map .str))), some (.m μ.length), o6, o7, none, none, none, none, none] (S j μ [.lst (as.map fun a => .d (dAtom a))] o3)
    refine i_sset pt ?_
    refine i_sset (c := .d (dS (varsOf as))) (pu_call1 (c1 := .d (dPat [] as)) (pu_var (i := 8) rfl) fun er Q q => ⟨[], as, rfl, lo, q⟩) ?_
    refine i_sown0 ?_
    rw [S_len1, i_app1]
    have p9 : Pu (aVar 9) [some (.m j), some (.d (dCat c)), some (.d (.int 4)), some (.d (.int 4)), some (.d (.list (nm.map .str))), some (.m μ.length), o6, o7, some (.d (dPat [] as)), some (.d (dS (varsOf as))), some (.m (μ.length + 1)), none, none] (S j μ [.lst (as.map fun a => .d (dAtom a)), .lst []] o3) (.d (dS (varsOf as))) := pu_var rfl
    have pl := pu_lenD p9 (l := (varsOf as).map PyData.str) (.inr rfl)
    rw [List.length_map] at pl
    refine i_sfor (i_rg1 pl (by omega) ?_)
    refine hd_loop (B := .lst (as.map fun a => .d (dAtom a))) lj vl (fun _ => trivial) (fun hd o4 o6 o11 ho4 hv nd hl => ?_) (rgC 0 (varsOf as).length) [] o3 o6 none (by rw [rgC_len]; exact Nat.le_refl _) (by rw [rgC_len]; simpa using vl) ho3 (fun v hv => by cases hv) List.nodup_nil
    have hB : (S j μ [.lst (as.map fun a => .d (dAtom a)), .lst (sL hd)] o4)[μ.length]? = some (.lst (as.map fun a => .d (dAtom a))) := S_at (k := 0) rfl
    have hH : (S j μ [.lst (as.map fun a => .d (dAtom a)), .lst (sL hd)] o4)[μ.length + 1]? = some (.lst (sL hd)) := S_at (k := 1) rfl
    exact i_ret (D := bodyD μ A er) (ρ := [some (.m j), some (.d (dCat c)), some (.d (.int 4)), some (.d (.int 4)), some (.d (.list (nm.map .str))), some (.m μ.length), o6, o7, some (.d (dPat [] as)), some (.d (dS (varsOf as))), some (.m (μ.length + 1)), o11, none])
      (pu_tup2 (pu_tupC (pu_var (i := 10) rfl) (cells_m hH) (sL_D hd)) (pu_tupC (pu_var (i := 5) rfl) (cells_m hB) (ds := as.map dAtom) (by rw [List.map_map]; rfl)))
      (fin_S ho4 (h hd as o4 ⟨n1, n4, fun a ha => by
        obtain ⟨t, tm, e1, e2, e3⟩ := hat a ha
        exact ⟨t, tm, e1, e2, fun v hv => nmin v (e3 v hv)⟩, hv, nd, hl⟩ ho4))
  rw [← e0] at main
  exact main
end Jh

set_option Elab.async false
set_option linter.all false
set_option maxRecDepth 100000
set_option maxHeartbeats 4000000
namespace Jh
open PySem PySem.Spec PyProof.Rows L2
/-! ### _law_told -/
abbrev st_L_told : Stmt := top 67
abbrev ns_L_told : List Str := ["_law_which", "_law_catalogue_here", "_law_pattern_here", "_law_thing", "_law_found", "e"]
theorem sc_L_told : FnScope ns_L_told ["_law_which", "_law_catalogue_here", "_law_pattern_here", "_law_thing"] (defScope st_L_told) := ⟨rfl, rfl, rfl, by decide +kernel, rfl, by decide +kernel, by decide +kernel⟩
structure ToldTx (K : Frg) (mg : Str → Option Value) (CH CC CO : Addr) : Prop where
  gH : mg "HallError" = some (.ref CH)
  gC : mg "CoverError" = some (.ref CC)
  gO : mg "OrderError" = some (.ref CO)
  eC : PySem.W.exmOne K (.ref CC) (.ref CH) = some true
  eO : PySem.W.exmOne K (.ref CO) (.ref CH) = some true
  xC : ExcC K CC
  xO : ExcC K CO
  cc : PySem.W.kitOne K (.ref CC) (.ref CC) = some true
  co : PySem.W.kitOne K (.ref CC) (.ref CO) = some false
  oc : PySem.W.kitOne K (.ref CO) (.ref CC) = some false
  oo : PySem.W.kitOne K (.ref CO) (.ref CO) = some true
def tEr (CC CO : Addr) (A : Cl → Sto → Prop) : Er := fun Cx μ' => (Cx = CC ∧ A (.d (.str "cover")) μ') ∨ (Cx = CO ∧ A (.d (.str "order")) μ')
def r_told (R1 R2 : RS) (CC CO : Addr) : RS := fun cs μ A _ => ∃ (w : Int) (c1 c2 c3 : Cl), cs = [.d (.int w), c1, c2, c3] ∧ (w = 0 → R1 [c1, c2, c3] μ A (tEr CC CO A)) ∧ (w ≠ 0 → R2 [c1, c2, c3] μ A (tEr CC CO A))
def tsu (CC CO : Addr) : Addr → Value → Option Addr → TS := fun a cls d D σ H => σ[5]? = some (some (.ref a)) ∧ ((cls = .ref CC ∧ d = none ∧ D.rt (.str "cover") H) ∨ (cls = .ref CO ∧ d = none ∧ D.rt (.str "order") H))
abbrev rAddS : R2 := fun x y H Q => ∃ i j, x = .str i ∧ y = .str j ∧ i.length + j.length ≤ sizeLine ∧ Q (.str (i ++ j)) H
abbrev tIsi (r : List V → Hp → VK → Prop) (D : Addr) : TT := fun σ H Q => (tCB r (tCons (tVar 5) (tCons (tC (.ref D)) tNil))) σ H fun x H' => ∃ k, x = .bl k ∧ Q k H'
abbrev tTold (K : Frg) (Ra Rb : RS) (W : WX) : TS := tAsg (tIf (fun σ H Q => (tOp (rEqP K false) (tVar 0) (tC (.int 0))) σ H fun x H' => ∃ k, x = .bl k ∧ Q k H') (tCallS (SpA K Ra) (WE W) (tCons (tVar 1) (tCons (tVar 2) (tCons (tVar 3) tNil)))) (tCallS (SpA K Rb) (WE W) (tCons (tVar 1) (tCons (tVar 2) (tCons (tVar 3) tNil))))) (gName 4)
theorem isE_is {K : Frg} {D E a : Addr} {b : Bool} {H : Hp} {Q : Bool → Hp → Prop} {σ : L2.St} (hs : σ[5]? = some (some (.ref a))) (hk : PySem.W.kitOne K (.ref D) (.ref E) = some b) (q : Q b H) : tIsi (rIsE K D a) E σ H Q :=
  ⟨.ref a, hs, .ref E, .ref E, b, rfl, fun u r => r, hk, b, rfl, q⟩
theorem str_l : ("cover" : Str) ++ ("" : Str) = "cover" := by decide +kernel
theorem str_r : ("" : Str) ++ ("order" : Str) = "order" := by decide +kernel
theorem len_l : ("cover" : Str).length + ("" : Str).length ≤ sizeLine := by decide +kernel
theorem len_r : ("" : Str).length + ("order" : Str).length ≤ sizeLine := by decide +kernel
section
variable {P : Program} {w : World} {K : Frg} {mg : Str → Option Value} {base : Heap} {C CH CC CO : Addr} {Ra Rb : RS}
theorem told_isi {f : Addr} {cdv : Value} {A : Around} {outer : List Env} {s0 : Shared} {H0 : Hp} {E0 : XK} {a : Addr} {oe : Obj} {pn : List (Addr × Obj)} (T : Tx K mg C) (hf : ∃ vs, oe.data = .fields vs) {Dx Ex : Addr} {nm : Str} {p1 p2 p3 pos : Pos} (x : ExcC K Dx) (hz : Zc (.ref Dx) none oe)
    (hm : mg nm = some (.ref Ex)) (hg : (defScope st_L_told).names.lookup nm = some .globalImplicit) (hd : (nm == ("__debug__" : Str)) = false) :
    PT ((cxOf (L2.CX P w) P w K mg base ns_L_told "_law_told" (defScope st_L_told) f cdv A outer s0 H0 E0).suite a ((a, oe) :: pn)) (.Call (.Name "isinstance" p1) [.Name "e" p2, .Name nm p3] [] pos) (tIsi (rIsE K Dx a) Ex) := by
  have pe1 : PE ((cxOf (L2.CX P w) P w K mg base ns_L_told "_law_told" (defScope st_L_told) f cdv A outer s0 H0 E0).suite a ((a, oe) :: pn)) (.Name "e" p2) (tVar 5) := pe_var rfl (Or.inl rfl)
  have pe2 : PE ((cxOf (L2.CX P w) P w K mg base ns_L_told "_law_told" (defScope st_L_told) f cdv A outer s0 H0 E0).suite a ((a, oe) :: pn)) (.Name nm p3) (tC (.ref Ex)) := pe_glob hg hm rfl hd
  have gi : Gl ((cxOf (L2.CX P w) P w K mg base ns_L_told "_law_told" (defScope st_L_told) f cdv A outer s0 H0 E0).suite a ((a, oe) :: pn)) "isinstance" := rfl
  have ci : CallR ((cxOf (L2.CX P w) P w K mg base ns_L_told "_law_told" (defScope st_L_told) f cdv A outer s0 H0 E0).suite a ((a, oe) :: pn)) (.builtin "isinstance") (rIsE K Dx a) := call_isE (X := cxOf (L2.CX P w) P w K mg base ns_L_told "_law_told" (defScope st_L_told) f cdv A outer s0 H0 E0) x hz hf
  exact pt_val (pe_callB ci gi T.b_isinstance boot_isinstance' (pa_cons pe1 (pa_cons pe2 pa_nil))) (fun _ => rfl)
theorem told_ok {f : Addr} {fd : FuncData} (T : Tx K mg C) (TT : ToldTx K mg CH CC CO) (Fn : Fun K "_law_told" "_law_told" st_L_told f fd) (Cb : Cal P w K mg base 5 "bound_of" Ra) (Ca : Cal P w K mg base 5 "bounds_along" Rb) :
    FnOk P w K mg base (L2.CX P w) 6 f fd ["_law_which", "_law_catalogue_here", "_law_pattern_here", "_law_thing"] (SpA K (r_told Ra Rb CC CO)) := by
  obtain ⟨fb, fdb, psb, Gb, mb, kb, bb⟩ := Cb
  obtain ⟨fa, fda, psa, Ga, ma, ka, ba⟩ := Ca
  have hN : (ns_L_told : List Str).Nodup := sc_L_told.nd
  refine Fn.okX sc_L_told (fun vs H Q E h => ?_) (fun cdv A outer s H_0 vs Q E hroom h => ?_)
  · obtain ⟨ad, H0, cs, μ, A, er, w', r, ⟨w, c1, c2, c3, rfl, _⟩, _⟩ := h
    rw [Paired.len r]; rfl
  · refine ⟨tSeq (fun D σ H => tTold K Ra Rb (wAs K (.ref CH) 5 (tsu CC CO) (fun _ _ _ _ => False) D) D σ H) (tRet (tVar 4)), ?_, ?_⟩
    · refine pss_cons (ps_try_as (i := 5) (tb := tTold K Ra Rb) (ts := tsu CC CO) (Wout := fun _ _ _ _ => False) rfl rfl hN rfl rfl ⟨rfl, by decide, Or.inl TT.gH⟩ takes0 (fun W pn xe tk po => ?_) (fun a oe cls d pn hz hf => ?_)) (pss_one (ps_ret (pe_var rfl (Or.inl rfl))))
      · have fk : Fok ⟨P, w, K, mg, base, ns_L_told, defScope st_L_told, 5, fun _ _ _ => False, fun _ => true⟩ ((cxOf (L2.CX P w) P w K mg base ns_L_told "_law_told" (defScope st_L_told) f cdv A outer s H_0 E).tr pn xe) := ⟨rfl, rfl, rfl, rfl, rfl, rfl, rfl, hroom, rfl, takes0, po, rfl⟩
        have pa : ∀ {p1 p2 p3 : Pos}, PA ((cxOf (L2.CX P w) P w K mg base ns_L_told "_law_told" (defScope st_L_told) f cdv A outer s H_0 E).tr pn xe) [.Name "_law_catalogue_here" p1, .Name "_law_pattern_here" p2, .Name "_law_thing" p3] (tCons (tVar 1) (tCons (tVar 2) (tCons (tVar 3) tNil))) :=
          pa_cons (pe_var rfl (Or.inl rfl)) (pa_cons (pe_var rfl (Or.inl rfl)) (pa_cons (pe_var rfl (Or.inl rfl)) pa_nil))
        exact pss_one (ps_set (i := 4) hN rfl (Or.inl rfl) (pe_ifExp (pt_cmpR (op_eqJ fk) (pe_var rfl (Or.inl rfl)) pe_int rfl)
          (pe_callS Gb (hroom.mono (by decide)) rfl mb kb bb (fun σ => passAt tk σ) pa) (pe_callS Ga (hroom.mono (by decide)) rfl ma ka ba (fun σ => passAt tk σ) pa)))
      · refine ⟨fun pins s σ H D I h => ?_⟩
        obtain ⟨hs, h⟩ := h
        rcases h with ⟨rfl, rfl, q⟩ | ⟨rfl, rfl, q⟩
        · refine (pss_one (ps_ret (te := tOp rAddS (tIf (tIsi (rIsE K CC a) CC) (tC (.str "cover")) (tC (.str ""))) (tIf (tIsi (rIsE K CC a) CO) (tC (.str "order")) (tC (.str "")))) (pe_op op_add_str
            (pe_ifExp (told_isi T hf TT.xC hz TT.gC rfl rfl) pe_str pe_str)
            (pe_ifExp (told_isi T hf TT.xC hz TT.gO rfl rfl) pe_str pe_str)))).run pins s σ H D I ?_
          refine isE_is hs TT.cc ?_
          rw [if_pos rfl]
          refine isE_is hs TT.co ?_
          rw [if_neg Bool.false_ne_true]
          exact ⟨_, _, rfl, rfl, len_l, by rw [str_l]; exact q⟩
        · refine (pss_one (ps_ret (te := tOp rAddS (tIf (tIsi (rIsE K CO a) CC) (tC (.str "cover")) (tC (.str ""))) (tIf (tIsi (rIsE K CO a) CO) (tC (.str "order")) (tC (.str "")))) (pe_op op_add_str
            (pe_ifExp (told_isi T hf TT.xO hz TT.gC rfl rfl) pe_str pe_str)
            (pe_ifExp (told_isi T hf TT.xO hz TT.gO rfl rfl) pe_str pe_str)))).run pins s σ H D I ?_
          refine isE_is hs TT.oc ?_
          rw [if_neg Bool.false_ne_true]
          refine isE_is hs TT.oo ?_
          rw [if_pos rfl]
          exact ⟨_, _, rfl, rfl, len_r, by rw [str_r]; exact q⟩
    · obtain ⟨ad, H0, cs, μ, A', er, w', r, ⟨n, c1, c2, c3, rfl, h1, h2⟩, k1, k2⟩ := h
      cases r with
      | cons r0 r =>
        cases r with
        | cons r1 r =>
          cases r with
          | cons r2 r =>
            cases r with
            | cons r3 r =>
              cases r
              cases r0
              rename_i x1 x2 x3
              have e0 : L2.start ns_L_told [V.int n, x1, x2, x3] = [some (.int n), some x1, some x2, some x3, none, none] := rfl
              rw [e0]
              have err : ∀ (Cx : Addr) (μ' : Sto) (ad' : List Addr) (H0' H' : Hp), Gr ad H0 H_0 ad' H0' H' → Wr K ad' H0' H' μ' → tEr CC CO A' Cx μ' →
                  wAs K (.ref CH) 5 (tsu CC CO) (fun _ _ _ _ => False) { nx := fun σ' H' => tRet (tVar 4) { nx := fun _ H' => Q .non H', rt := Q } σ' H', rt := Q } (.ref Cx) none [some (.int n), some x1, some x2, some x3, none, none] H' := by
                intro Cx μ' ad' H0' H' g w2 ht
                rcases ht with ⟨rfl, ht⟩ | ⟨rfl, ht⟩
                · exact ⟨true, TT.eC, fun _ a _ => ⟨rfl, .inl ⟨rfl, rfl, k1 (.str "cover") (.d (.str "cover")) μ' ad' H0' H' g w2 (Dq.str _) ht⟩⟩, fun z => nomatch z⟩
                · exact ⟨true, TT.eO, fun _ a _ => ⟨rfl, .inr ⟨rfl, rfl, k1 (.str "order") (.d (.str "order")) μ' ad' H0' H' g w2 (Dq.str _) ht⟩⟩, fun z => nomatch z⟩
              have e1 : (false != PyData.eqv (.int n) (.int 0)) = decide (n = 0) := by rw [eqv_int, neg_false]
              refine ⟨.int n, rfl, .int n, .int 0, Dp.int n, Dp.int 0, by rw [PyData.plain], by rw [PyData.plain], Nat.le_of_ble_eq_true rfl, ?_⟩
              rw [e1]
              refine ⟨_, rfl, ?_⟩
              dsimp only
              by_cases hn : n = 0
              · rw [if_pos (decide_eq_true hn)]
                exact ⟨_, rfl, _, rfl, _, rfl, ad, H0, [c1, c2, c3], μ, A', tEr CC CO A', w', .cons r1 (.cons r2 (.cons r3 .nil)), h1 hn, fun v c μ' ad' H0' H' g w2 rc ha => ⟨v, rfl, k1 v c μ' ad' H0' H' g w2 rc ha⟩, err⟩
              · rw [if_neg (by simpa using hn)]
                exact ⟨_, rfl, _, rfl, _, rfl, ad, H0, [c1, c2, c3], μ, A', tEr CC CO A', w', .cons r1 (.cons r2 (.cons r3 .nil)), h2 hn, fun v c μ' ad' H0' H' g w2 rc ha => ⟨v, rfl, k1 v c μ' ad' H0' H' g w2 rc ha⟩, err⟩
end
end Jh

set_option Elab.async false
set_option linter.all false
set_option maxRecDepth 100000
set_option maxHeartbeats 4000000
namespace Jh
open PySem PySem.Spec PyProof.Rows L2
/-! ### the drawn catalogues and patterns are right ones -/
theorem name_list (k : Nat) (n : Int) (hk : k < 3) (n1 : 1 ≤ n) (n4 : n ≤ 4) : (nameOf k n).cps.toList = [97 + k, 48 + n.toNat] := by
  rcases (show k = 0 ∨ k = 1 ∨ k = 2 by omega) with rfl | rfl | rfl <;> rcases (show n = 1 ∨ n = 2 ∨ n = 3 ∨ n = 4 by omega) with rfl | rfl | rfl | rfl <;> decide +kernel
theorem letters_list : k_LETTERS.cps.toList = List.range' 97 26 := by decide +kernel
theorem signs_list : k_NAME_SIGNS.cps.toList = List.range' 97 26 ++ List.range' 48 10 := by decide +kernel
theorem good_of {s : Str} {l : List Nat} (h : s.cps.toList = l) (h1 : l ≠ []) (h20 : l.length ≤ 20) (hh : ∀ c, l[0]? = some c → 97 ≤ c ∧ c < 123) (ha : ∀ c ∈ l, (97 ≤ c ∧ c < 123) ∨ (48 ≤ c ∧ c < 58)) : GoodName s := by
  refine ⟨by rw [h]; exact h1, by rw [str_len, h]; exact h20, fun c hc => ?_, fun c hc => ?_⟩
  · rw [h] at hc
    rw [letters_list]
    exact List.mem_range'_1.mpr (hh c hc)
  · rw [h] at hc
    rw [signs_list]
    rcases ha c hc with z | z
    · exact List.mem_append_left _ (List.mem_range'_1.mpr z)
    · exact List.mem_append_right _ (List.mem_range'_1.mpr z)
theorem name_good (k : Nat) (n : Int) (hk : k < 3) (n1 : 1 ≤ n) (n4 : n ≤ 4) : GoodName (nameOf k n) :=
  good_of (name_list k n hk n1 n4) (List.cons_ne_nil _ _) (by show 2 ≤ 20; decide) (fun c hc => by simp at hc; omega) (fun c hc => by simp at hc; omega)
theorem var_good : ∀ v ∈ NM.take 4, GoodName v := by
  intro v hv
  have : v = "x" ∨ v = "y" ∨ v = "z" ∨ v = "u" := by simpa [NM] using hv
  rcases this with rfl | rfl | rfl | rfl
  · exact good_of (l := [120]) (by decide +kernel) (List.cons_ne_nil _ _) (by decide) (fun c hc => by simp at hc; omega) (fun c hc => by simp at hc; omega)
  · exact good_of (l := [121]) (by decide +kernel) (List.cons_ne_nil _ _) (by decide) (fun c hc => by simp at hc; omega) (fun c hc => by simp at hc; omega)
  · exact good_of (l := [122]) (by decide +kernel) (List.cons_ne_nil _ _) (by decide) (fun c hc => by simp at hc; omega) (fun c hc => by simp at hc; omega)
  · exact good_of (l := [117]) (by decide +kernel) (List.cons_ne_nil _ _) (by decide) (fun c hc => by simp at hc; omega) (fun c hc => by simp at hc; omega)
theorem CatOk.k3 {c : List Tb} (h : CatOk c) {k : Nat} {t : Tb} (hk : c[k]? = some t) : k < 3 := by
  have := (List.getElem?_eq_some_iff.mp hk).1
  have := h.l3
  omega
theorem CatOk.nm {c : List Tb} (h : CatOk c) {k : Nat} {t : Tb} (hk : c[k]? = some t) : t.nm.cps.toList = [97 + k, 48 + t.cols.toNat] := by
  obtain ⟨e, ⟨c1, c4⟩, _⟩ := h.tb k t hk
  rw [e]
  exact name_list k t.cols (h.k3 hk) c1 c4
theorem CatOk.good {c : List Tb} (h : CatOk c) : GoodCat c := by
  refine ⟨fun t ht => ?_, by have := h.l3; omega, fun k t t' hk hk' => ?_⟩
  · obtain ⟨k, hk, e⟩ := List.getElem_of_mem ht
    have hk' : c[k]? = some t := by rw [← e]; exact List.getElem?_eq_getElem hk
    obtain ⟨e, ⟨c1, c4⟩, r⟩ := h.tb k t hk'
    refine ⟨by rw [e]; exact name_good k t.cols (h.k3 hk') c1 c4, c1, c4, fun r' hr => ?_, by have := r.len; omega, r.asc⟩
    have := r.row r' hr
    exact ⟨this.1, fun x hx => by have := this.2 x hx; omega⟩
  · rw [h.nm hk, h.nm hk']
    exact List.cons_lt_cons_iff.mpr (.inl (by omega))
theorem CatOk.inj {c : List Tb} (h : CatOk c) {k k' : Nat} {t t' : Tb} (hk : c[k]? = some t) (hk' : c[k']? = some t') (e : t.nm = t'.nm) : k = k' := by
  have a := h.nm hk
  have b := h.nm hk'
  rw [e, b] at a
  have : 97 + k' = 97 + k := by injection a
  omega
theorem CatOk.first {c : List Tb} (h : CatOk c) {t : Tb} (ht : t ∈ c) : ∃ i, FirstAt c t.nm i t := by
  obtain ⟨k, hk, e⟩ := List.getElem_of_mem ht
  have hk' : c[k]? = some t := by rw [← e]; exact List.getElem?_eq_getElem hk
  refine ⟨k, hk', rfl, fun i t' hi ht' e => ?_⟩
  have := h.inj ht' hk' e
  omega
theorem CatOk.len7 {c : List Tb} (h : CatOk c) {t : Tb} (ht : t ∈ c) : t.rows.length ≤ 7 := by
  obtain ⟨k, hk, e⟩ := List.getElem_of_mem ht
  obtain ⟨_, _, r⟩ := h.tb k t (by rw [← e]; exact List.getElem?_eq_getElem hk)
  have := r.len
  omega
theorem CatOk.cols {c : List Tb} (h : CatOk c) {t : Tb} (ht : t ∈ c) : 1 ≤ t.cols ∧ t.cols ≤ 4 := by
  obtain ⟨k, hk, e⟩ := List.getElem_of_mem ht
  exact (h.tb k t (by rw [← e]; exact List.getElem?_eq_getElem hk)).2.1
theorem mem_varsOf (as : List Atom) (v : Str) : v ∈ varsOf as ↔ ∃ a ∈ as, v ∈ a.2 := by
  have key : ∀ (as : List Atom) (F : List Str), v ∈ as.foldl (fun f a => a.2.foldl addV f) F ↔ v ∈ F ∨ ∃ a ∈ as, v ∈ a.2 := by
    intro as
    induction as with
    | nil => intro F; simp
    | cons a as ih =>
      intro F
      rw [List.foldl_cons, ih, mem_addVs]
      constructor
      · rintro ((h | h) | ⟨b, hb, h⟩)
        · exact .inl h
        · exact .inr ⟨a, List.mem_cons_self, h⟩
        · exact .inr ⟨b, List.mem_cons_of_mem _ hb, h⟩
      · rintro (h | ⟨b, hb, h⟩)
        · exact .inl (.inl h)
        · rcases List.mem_cons.mp hb with rfl | hb
          · exact .inl (.inr h)
          · exact .inr ⟨b, hb, h⟩
  have := key as []
  simpa [varsOf] using this
theorem nodup_addV {F : List Str} (h : F.Nodup) (v : Str) : (addV F v).Nodup := by
  unfold addV
  split
  · exact h
  · rename_i hv
    rw [List.nodup_append]
    exact ⟨h, by simp, fun a ha b hb => by rw [List.mem_singleton.mp hb]; exact fun e => hv (e ▸ ha)⟩
theorem nodup_varsOf (as : List Atom) : (varsOf as).Nodup := by
  have k1 : ∀ (l F : List Str), F.Nodup → (l.foldl addV F).Nodup := by
    intro l
    induction l with
    | nil => intro F h; exact h
    | cons v l ih => intro F h; exact ih _ (nodup_addV h v)
  have k2 : ∀ (as : List Atom) (F : List Str), F.Nodup → (as.foldl (fun f a => a.2.foldl addV f) F).Nodup := by
    intro as
    induction as with
    | nil => intro F h; exact h
    | cons a as ih => intro F h; exact ih _ (k1 a.2 F h)
  exact k2 as [] List.nodup_nil
theorem nodup_len : ∀ (m l : List Str), l.Nodup → (∀ x ∈ l, x ∈ m) → l.length ≤ m.length
  | [], l, _, h => by
    cases l with
    | nil => exact Nat.le_refl _
    | cons x l => exact absurd (h x List.mem_cons_self) (by simp)
  | y :: m, l, nd, h => by
    have h1 := nodup_len m (l.erase y) (nd.erase y) fun x hx => by
      have hx' := (List.Nodup.mem_erase_iff nd).mp hx
      rcases List.mem_cons.mp (h x hx'.2) with e | e
      · exact absurd e hx'.1
      · exact e
    have h2 : l.length ≤ (l.erase y).length + 1 := by
      rw [List.length_erase]
      split <;> omega
    rw [List.length_cons]
    omega
section
variable {c : List Tb} {hd : List Str} {as : List Atom} (hc : CatOk c) (hp : PatOk c hd as)
include hc hp
theorem PatOk.vars4 : (varsOf as).length ≤ 4 := by
  have := nodup_len (NM.take 4) (varsOf as) (nodup_varsOf as) fun v hv => by
    obtain ⟨a, ha, hva⟩ := (mem_varsOf as v).mp hv
    obtain ⟨t, _, _, _, h⟩ := hp.at_ a ha
    exact h v hva
  exact this
theorem PatOk.vars1 : 1 ≤ (varsOf as).length := by
  have n1 := hp.n1
  cases as with
  | nil => simp at n1
  | cons a as =>
    obtain ⟨t, tm, _, e, _⟩ := hp.at_ a List.mem_cons_self
    have := hc.cols tm
    cases hv : a.2 with
    | nil => rw [hv] at e; simp at e; omega
    | cons v l =>
      have : v ∈ varsOf (a :: as) := (mem_varsOf _ v).mpr ⟨a, List.mem_cons_self, by rw [hv]; exact List.mem_cons_self⟩
      exact List.length_pos_of_mem this
theorem PatOk.good : GoodPat hd as := by
  refine ⟨⟨fun a ha => ?_, fun a ha => ?_, fun a ha => ?_, fun a ha v hv => ?_, fun a ha b hb e => ?_, hp.n1, by have := hp.n4; omega⟩, hp.hv, fun k hk => ?_, by have := PatOk.vars4 hc hp; omega, hp.hl⟩
  · obtain ⟨t, tm, e, _, _⟩ := hp.at_ a ha
    rw [e]; exact (hc.good.tb t tm).nm
  · obtain ⟨t, tm, _, e, _⟩ := hp.at_ a ha
    have := hc.cols tm; omega
  · obtain ⟨t, tm, _, e, _⟩ := hp.at_ a ha
    have := hc.cols tm; omega
  · obtain ⟨t, tm, _, _, h⟩ := hp.at_ a ha
    exact var_good v (h v hv)
  · obtain ⟨t, tm, e1, e2, _⟩ := hp.at_ a ha
    obtain ⟨t', tm', e1', e2', _⟩ := hp.at_ b hb
    obtain ⟨k, hk, z⟩ := List.getElem_of_mem tm
    obtain ⟨k', hk', z'⟩ := List.getElem_of_mem tm'
    have g : c[k]? = some t := by rw [← z]; exact List.getElem?_eq_getElem hk
    have g' : c[k']? = some t' := by rw [← z']; exact List.getElem?_eq_getElem hk'
    have := hc.inj g g' (by rw [← e1, ← e1', e])
    subst this
    rw [g] at g'
    cases g'
    omega
  · intro h
    have gk : hd[k]? = some (hd.getD k "") := by rw [List.getD_eq_getElem?_getD, List.getElem?_eq_getElem hk]; rfl
    obtain ⟨i, hi, e⟩ := List.getElem_of_mem h
    rw [List.length_take] at hi
    rw [List.getElem_take] at e
    have gi : hd[i]? = some (hd.getD k "") := by rw [← e]; exact List.getElem?_eq_getElem (by omega)
    have : i = k := (List.getElem?_inj (by omega) hp.nd).mp (by rw [gi, gk])
    omega
theorem PatOk.fits : Fits c as := fun a ha => by
  obtain ⟨t, tm, e1, e2, _⟩ := hp.at_ a ha
  obtain ⟨i, fi⟩ := hc.first tm
  exact ⟨i, t, by rw [e1]; exact fi, e2.symm⟩
theorem PatOk.ms : ∃ ms, Ms c as ms ∧ ∀ n ∈ ms, n ≤ 7 := by
  have key : ∀ as : List Atom, (∀ a ∈ as, ∃ t ∈ c, a.1 = t.nm) → ∃ ms, Ms c as ms ∧ ∀ n ∈ ms, n ≤ 7 := by
    intro as
    induction as with
    | nil => intro _; exact ⟨[], ⟨rfl, fun k a h => by simp at h⟩, fun n h => by cases h⟩
    | cons a as ih =>
      intro h
      obtain ⟨ms, ⟨l, hm⟩, h7⟩ := ih fun b hb => h b (List.mem_cons_of_mem _ hb)
      obtain ⟨t, tm, e⟩ := h a List.mem_cons_self
      obtain ⟨i, fi⟩ := hc.first tm
      refine ⟨t.rows.length :: ms, ⟨by simp [l], fun k b hk => ?_⟩, fun n hn => ?_⟩
      · cases k with
        | zero =>
          simp at hk
          subst hk
          exact ⟨i, t, by rw [e]; exact fi, rfl, by have := hc.len7 tm; omega⟩
        | succ k =>
          obtain ⟨i, t, h1, h2, h3⟩ := hm k b (by simpa using hk)
          exact ⟨i, t, h1, by simpa using h2, h3⟩
      · rcases List.mem_cons.mp hn with rfl | hn
        · exact hc.len7 tm
        · exact h7 n hn
  exact key as fun a ha => by
    obtain ⟨t, tm, e, _⟩ := hp.at_ a ha
    exact ⟨t, tm, e⟩
end
end Jh

set_option Elab.async false
set_option linter.all false
set_option maxRecDepth 100000
set_option maxHeartbeats 4000000
namespace Jh
open PySem PySem.Spec PyProof.Rows L2
/-! ### the law's own reading: told -/
theorem pu_call4 {e1 e2 e3 e4 : AX} {ρ : En} {μ : Sto} {c c1 c2 c3 c4 : Cl} {R : RS} (h1 : Pu e1 ρ μ c1) (h2 : Pu e2 ρ μ c2) (h3 : Pu e3 ρ μ c3) (h4 : Pu e4 ρ μ c4) (h : ∀ er Q, Q c μ → R [c1, c2, c3, c4] μ Q er) : Pu (aCall R (aCons e1 (aCons e2 (aCons e3 (aCons e4 aNil))))) ρ μ c := fun er Q q => h1 _ _ (h2 _ _ (h3 _ _ (h4 _ _ (h er Q q))))
structure Ctx (c : List Tb) (hd : List Str) (as : List Atom) (ms : List Nat) : Prop where
  hc : CatOk c
  hp : PatOk c hd as
  M : Ms c as ms
  m7 : ∀ n ∈ ms, n ≤ 7
abbrev rTold (CC CO : Addr) : RS := r_told (r_bound_of CC) (r_bounds_along CO) CC CO
section
variable {CC CO : Addr} {c : List Tb} {hd : List Str} {as : List Atom} {ms : List Nat} (X : Ctx c hd as ms)
include X
theorem told0_ok {cov : List Frc} {μ : Sto} {Q : Cl → Sto → Prop} {er : Er} (hl : cov.length ≤ 100) (ok : cov.length = as.length → CovOk cov) (h : OkB as cov) (q : Q (.d (dF (bnd ms cov))) μ) : rTold CC CO [.d (.int 0), .d (dCat c), .d (dPat hd as), .d (dCov cov)] μ Q er :=
  ⟨0, _, _, _, rfl, fun _ => ⟨c, hd, as, cov, ms, rfl, X.hc.good, X.hp.good X.hc, X.hp.fits X.hc, X.M, hl, ok, fun _ => q, fun z => absurd h z⟩, fun z => absurd rfl z⟩
theorem told0_no {cov : List Frc} {μ : Sto} {Q : Cl → Sto → Prop} {er : Er} (hl : cov.length ≤ 100) (ok : cov.length = as.length → CovOk cov) (h : ¬ OkB as cov) (q : Q (.d (.str "cover")) μ) : rTold CC CO [.d (.int 0), .d (dCat c), .d (dPat hd as), .d (dCov cov)] μ Q er :=
  ⟨0, _, _, _, rfl, fun _ => ⟨c, hd, as, cov, ms, rfl, X.hc.good, X.hp.good X.hc, X.hp.fits X.hc, X.M, hl, ok, fun z => absurd z h, fun _ => .inl ⟨rfl, q⟩⟩, fun z => absurd rfl z⟩
theorem told1_ok {ord : List Str} {μ : Sto} {Q : Cl → Sto → Prop} {er : Er} (hp : ord.Perm (varsOf as)) (q : ∀ L : List Res, L.length = ord.length → (∀ k r, L[k]? = some r → ResOk as ord k r) → Q (.d (.tuple (L.map (dRes ms)))) μ) : rTold CC CO [.d (.int 1), .d (dCat c), .d (dPat hd as), .d (dS ord)] μ Q er := by
  refine ⟨1, _, _, _, rfl, fun z => absurd z (by decide), fun _ => ⟨c, hd, as, ord, ms, rfl, X.hc.good, X.hp.good X.hc, X.hp.fits X.hc, X.M, X.hp.n4, ?_, fun z => absurd (sS_perm hp) z, fun _ => ⟨?_, fun v hv => ?_, q⟩⟩⟩
  · have := hp.length_eq; have := X.hp.vars4 X.hc; omega
  · have := hp.length_eq; have := X.hp.vars4 X.hc; omega
  · exact (mem_varsOf as v).mp (hp.mem_iff.mp hv)
theorem told1_no {ord : List Str} {μ : Sto} {Q : Cl → Sto → Prop} {er : Er} (hp : ord.length ≠ (varsOf as).length) (hl : ord.length ≤ 100) (q : Q (.d (.str "order")) μ) : rTold CC CO [.d (.int 1), .d (dCat c), .d (dPat hd as), .d (dS ord)] μ Q er := by
  have ne : sS ord ≠ sS (varsOf as) := fun e => hp (by rw [← sS_len ord, e, sS_len])
  exact ⟨1, _, _, _, rfl, fun z => absurd z (by decide), fun _ => ⟨c, hd, as, ord, ms, rfl, X.hc.good, X.hp.good X.hc, X.hp.fits X.hc, X.M, X.hp.n4, hl, fun _ => .inr ⟨rfl, q⟩, fun z => absurd z ne⟩⟩
/-! ### what the law asks of each row -/
theorem res_ok {ord : List Str} {k : Nat} {r : Res} (h : ResOk as ord k r) (hk : k < ord.length) (h4 : ord.length ≤ 4) :
    CvOk r.1 as.length r.2.1 ∧ CvOk r.1 (ord.take (k + 1)).length r.2.2 ∧ (∀ v ∈ ord.take (k + 1), r.1 ≤ isum (selI (pcov as v) r.2.1)) ∧ (∀ a ∈ as, isum (selI (ppak (ord.take (k + 1)) a) r.2.2) ≤ r.1) ∧ isum r.2.1 = isum r.2.2 := by
  have n4 := X.hp.n4
  have lc : r.2.1.length = as.length := by have := h.lc; unfold setsOf at this; rwa [List.length_map] at this
  have D1 := h.D1
  have D8 := h.D8
  have es : ∀ l : List Int, LP.sum l = isum l := fun l => by
    induction l with
    | nil => rfl
    | cons x l ih => show x + LP.sum l = x + isum l; rw [ih]
  have bc : ∀ x ∈ r.2.1, 0 ≤ x ∧ x ≤ 8 := fun x hx => by have := h.c0 x hx; omega
  have sumb : ∀ l : List Int, (∀ x ∈ l, 0 ≤ x ∧ x ≤ 8) → isum l ≤ 8 * l.length := by
    intro l
    induction l with
    | nil => intro _; exact Int.le_refl 0
    | cons x l ih =>
      intro hh
      have h1 := hh x List.mem_cons_self
      have h2 := ih fun y hy => hh y (List.mem_cons_of_mem _ hy)
      rw [isum, List.length_cons]
      omega
  have memb : ∀ l : List Int, (∀ x ∈ l, 0 ≤ x) → ∀ x ∈ l, x ≤ isum l := by
    intro l
    induction l with
    | nil => intro _ x hx; cases hx
    | cons y l ih =>
      intro hh x hx
      have nn : 0 ≤ isum l := by
        have : ∀ l : List Int, (∀ x ∈ l, 0 ≤ x) → 0 ≤ isum l := by
          intro l
          induction l with
          | nil => intro _; exact Int.le_refl 0
          | cons z l ih2 =>
            intro h3
            have := h3 z List.mem_cons_self
            have := ih2 fun y hy => h3 y (List.mem_cons_of_mem _ hy)
            rw [isum]; omega
        exact this l fun y hy => hh y (List.mem_cons_of_mem _ hy)
      have y0 := hh y List.mem_cons_self
      rw [isum]
      rcases List.mem_cons.mp hx with rfl | hx
      · omega
      · have := ih (fun y hy => hh y (List.mem_cons_of_mem _ hy)) x hx
        omega
  have ss : isum r.2.1 = isum r.2.2 := by rw [← es, ← es]; exact h.s
  have sb := sumb r.2.1 bc
  rw [lc] at sb
  have bp : ∀ x ∈ r.2.2, 0 ≤ x ∧ x ≤ 100 := fun x hx => ⟨h.p0 x hx, by have := memb r.2.2 h.p0 x hx; omega⟩
  have tl : (ord.take (k + 1)).length ≤ 8 := by rw [List.length_take]; omega
  refine ⟨⟨D1, D8, lc, by omega, fun x hx => by have := bc x hx; omega⟩, ⟨D1, D8, h.lp, tl, bp⟩, fun v hv => ?_, fun a ha => ?_, ss⟩
  · obtain ⟨i, hi, e⟩ := List.getElem_of_mem hv
    have e' : (ord.take (k + 1)).getD i "" = v := by rw [List.getD_eq_getElem?_getD, List.getElem?_eq_getElem hi, e]; rfl
    have c1 := h.c i hi
    rw [mask_setsOf as _ hi, e'] at c1
    have em : (as.map fun a => decide (v ∈ a.2)) = (List.range r.2.1.length).map (pcov as v) := by
      rw [lc]
      apply List.ext_getElem?
      intro q
      by_cases hq : q < as.length
      · rw [List.getElem?_map, List.getElem?_map, List.getElem?_range hq, List.getElem?_eq_getElem hq]
        show some _ = some (pcov as v q)
        unfold pcov
        rw [List.getElem?_eq_getElem hq]
      · rw [List.getElem?_eq_none (by simp; omega), List.getElem?_eq_none (by simp; omega)]
    rw [em, dot_sel] at c1
    exact c1
  · obtain ⟨i, hi, e⟩ := List.getElem_of_mem ha
    have p1 := h.p i (by unfold setsOf; rw [List.length_map]; exact hi)
    rw [pack_sel i _ _ (by rw [masksOf_len, h.lp])] at p1
    have ef : ∀ q, q < r.2.2.length → (((masksOf (setsOf as (ord.take (k + 1))) (ord.take (k + 1)).length).getD q []).getD i false) = ppak (ord.take (k + 1)) a q := by
      intro q hq
      rw [h.lp] at hq
      have g : (masksOf (setsOf as (ord.take (k + 1))) (ord.take (k + 1)).length).getD q [] = maskOf (setsOf as (ord.take (k + 1))) q := by
        unfold masksOf
        rw [List.getD_eq_getElem?_getD, List.getElem?_map, List.getElem?_range hq]; rfl
      rw [g, mask_setsOf as _ hq, List.getD_eq_getElem?_getD, List.getElem?_map, List.getElem?_eq_getElem hi, e]
      rfl
    have es2 : selI (fun q => ((masksOf (setsOf as (ord.take (k + 1))) (ord.take (k + 1)).length).getD q []).getD i false) r.2.2 = selI (ppak (ord.take (k + 1)) a) r.2.2 := by
      unfold selI
      congr 1
      exact List.filter_congr fun q hq => ef q (List.mem_range.mp hq)
    rw [es2] at p1
    exact p1
end
end Jh

set_option Elab.async false
set_option linter.all false
set_option maxRecDepth 100000
set_option maxHeartbeats 4000000
namespace Jh
open PySem PySem.Spec PyProof.Rows L2
theorem pu_isB {a : AX} {ρ : En} {μ : Sto} {k : Bool} (ha : Pu a ρ μ (.d (.bool k))) : Pu (aCB fIsi (aCons a (aCons (aV (.ty "bool")) aNil))) ρ μ (.d (.bool true)) := fun er Q q => ha er _ (And.intro rfl q)
theorem pu_isT {a : AX} {ρ : En} {μ : Sto} {ds : List PyData} (ha : Pu a ρ μ (.d (.tuple ds))) : Pu (aCB fIsi (aCons a (aCons (aV (.ty "tuple")) aNil))) ρ μ (.d (.bool true)) := fun er Q q => ha er _ (And.intro rfl q)
theorem dep1 (f : Frc) : (dF f).depth ≤ 32 := depth_dF f
abbrev lastB : ASt := (sSeq (sAsg (aIx (aVar 15) (aVar 16)) (gTu 3 (gsCons (gN 17) (gsCons (gN 18) (gsCons (gN 19) gsNil)))))
    (sSeq (sAsg (aSlT (aVar 14) aNoP (aSomeP (aOp fAdd (aVar 16) (aC (.int 1))))) (gN 20))
    (sSeq (sIf (aOr (aNot (aTest (aCall r_L_covers (aCons (aVar 3) (aCons (aVar 20) (aCons (aVar 17) aNil)))))) (aOr (aNot (aTest (aCall r_L_packs (aCons (aVar 3) (aCons (aVar 20) (aCons (aVar 18) aNil)))))) (aTest (aOp (fEq true) (aCall r_L_sum (aCons (aVar 17) aNil)) (aCall r_L_sum (aCons (aVar 18) aNil)))))) (sRet (aC (.bool false))) sNext)
    (sIf (aTest (aOp (fEq true) (aVar 19) (aCall r_L_bound (aCons (aVar 2) (aCons (aVar 3) (aCons (aVar 17) aNil)))))) (sRet (aC (.bool false))) sNext))))
section
variable {CC CO : Addr} {c : List Tb} {hd : List Str} {as : List Atom} {ms : List Nat} {ord : List Str} {L : List Res} {o0 o1 o4 o5 o6 o7 o8 o9 o10 o11 o12 o13 o21 : Option Cl} {μ : Sto} {Z : AD}
theorem last_loop (X : Ctx c hd as ms) (h4 : ord.length ≤ 4) {st : Sto → Prop} (hs : st μ) (lL : L.length = ord.length) (hL : ∀ k r, L[k]? = some r → ResOk as ord k r)
    (hZ : ∀ o16 o17 o18 o19 o20, Z.nx [o0, o1, some (.d (dCat c)), some (.d (dPat hd as)), o4, o5, o6, o7, o8, o9, o10, o11, o12, o13, some (.d (dS ord)), some (.d (.tuple (L.map (dRes ms)))), o16, o17, o18, o19, o20, o21] μ) :
    ∀ (q i : Nat) (o16 o17 o18 o19 o20 : Option Cl), i + q = ord.length → forL (gN 16) lastB st Z ((List.range' i q).map fun i => Cl.d (.int (i : Nat)))
      [o0, o1, some (.d (dCat c)), some (.d (dPat hd as)), o4, o5, o6, o7, o8, o9, o10, o11, o12, o13, some (.d (dS ord)), some (.d (.tuple (L.map (dRes ms)))), o16, o17, o18, o19, o20, o21] μ
  | 0, i, o16, o17, o18, o19, o20, e => ⟨hs, hZ o16 o17 o18 o19 o20⟩
  | q + 1, i, o16, o17, o18, o19, o20, e => by
    rw [List.range'_succ]
    refine ⟨hs, ?_⟩
    have gr : L[i]? = some L[i] := List.getElem?_eq_getElem (by omega)
    have rok := hL i _ gr
    obtain ⟨k1, k2, k3, k4, k5⟩ := res_ok X rok (by omega) h4
    obtain ⟨k6, k7, k8⟩ := lp_cov rok X.hp.n4
    generalize L[i] = r at gr rok k1 k2 k3 k4 k5 k6 k7 k8
    have D1 := k1.D1
    refine i_sg3 (d1 := .tuple (dFs r.1 r.2.1)) (d2 := .tuple (dFs r.1 r.2.2)) (d3 := dF (bnd ms (frs r.1 r.2.1))) (pu_ixD (i := i) (d := .tuple (L.map (dRes ms))) (l := L.map (dRes ms)) (pu_var (i := 15) rfl) (pu_var (i := 16) rfl) (.inr rfl) (by rw [List.getElem?_map, gr]; rfl)) ?_
    have p16 : Pu (aOp fAdd (aVar 16) (aC (.int 1))) [o0, o1, some (.d (dCat c)), some (.d (dPat hd as)), o4, o5, o6, o7, o8, o9, o10, o11, o12, o13, some (.d (dS ord)), some (.d (.tuple (L.map (dRes ms)))), some (.d (.int (i : Nat))), some (.d (.tuple (dFs r.1 r.2.1))), some (.d (.tuple (dFs r.1 r.2.2))), some (.d (dF (bnd ms (frs r.1 r.2.1)))), o20, o21] μ (.d (.int ((i + 1 : Nat) : Int))) := by
      have := pu_add (i := (i : Nat)) (j := 1) (pu_var (i := 16) (ρ := [o0, o1, some (.d (dCat c)), some (.d (dPat hd as)), o4, o5, o6, o7, o8, o9, o10, o11, o12, o13, some (.d (dS ord)), some (.d (.tuple (L.map (dRes ms)))), some (.d (.int (i : Nat))), some (.d (.tuple (dFs r.1 r.2.1))), some (.d (.tuple (dFs r.1 r.2.2))), some (.d (dF (bnd ms (frs r.1 r.2.1)))), o20, o21]) (μ := μ) rfl) (pu_c (d := .int 1))
      rw [Int.natCast_add]; exact this
    have psl := pu_slTo (a := aVar 14) (ds := ord.map PyData.str) (pu_var (i := 14) rfl) p16
    rw [← List.map_take] at psl
    refine i_sset psl ?_
    generalize hch : ord.take (i + 1) = ch at k2 k3 k4
    have q3 : Pu (aVar 3) [o0, o1, some (.d (dCat c)), some (.d (dPat hd as)), o4, o5, o6, o7, o8, o9, o10, o11, o12, o13, some (.d (dS ord)), some (.d (.tuple (L.map (dRes ms)))), some (.d (.int (i : Nat))), some (.d (.tuple (dFs r.1 r.2.1))), some (.d (.tuple (dFs r.1 r.2.2))), some (.d (dF (bnd ms (frs r.1 r.2.1)))), some (.d (dS ch)), o21] μ (.d (dPat hd as)) := pu_var rfl
    have q2 : Pu (aVar 2) [o0, o1, some (.d (dCat c)), some (.d (dPat hd as)), o4, o5, o6, o7, o8, o9, o10, o11, o12, o13, some (.d (dS ord)), some (.d (.tuple (L.map (dRes ms)))), some (.d (.int (i : Nat))), some (.d (.tuple (dFs r.1 r.2.1))), some (.d (.tuple (dFs r.1 r.2.2))), some (.d (dF (bnd ms (frs r.1 r.2.1)))), some (.d (dS ch)), o21] μ (.d (dCat c)) := pu_var rfl
    have q20 : Pu (aVar 20) [o0, o1, some (.d (dCat c)), some (.d (dPat hd as)), o4, o5, o6, o7, o8, o9, o10, o11, o12, o13, some (.d (dS ord)), some (.d (.tuple (L.map (dRes ms)))), some (.d (.int (i : Nat))), some (.d (.tuple (dFs r.1 r.2.1))), some (.d (.tuple (dFs r.1 r.2.2))), some (.d (dF (bnd ms (frs r.1 r.2.1)))), some (.d (dS ch)), o21] μ (.d (dS ch)) := pu_var rfl
    have q17 : Pu (aVar 17) [o0, o1, some (.d (dCat c)), some (.d (dPat hd as)), o4, o5, o6, o7, o8, o9, o10, o11, o12, o13, some (.d (dS ord)), some (.d (.tuple (L.map (dRes ms)))), some (.d (.int (i : Nat))), some (.d (.tuple (dFs r.1 r.2.1))), some (.d (.tuple (dFs r.1 r.2.2))), some (.d (dF (bnd ms (frs r.1 r.2.1)))), some (.d (dS ch)), o21] μ (.d (.tuple (dFs r.1 r.2.1))) := pu_var rfl
    have q18 : Pu (aVar 18) [o0, o1, some (.d (dCat c)), some (.d (dPat hd as)), o4, o5, o6, o7, o8, o9, o10, o11, o12, o13, some (.d (dS ord)), some (.d (.tuple (L.map (dRes ms)))), some (.d (.int (i : Nat))), some (.d (.tuple (dFs r.1 r.2.1))), some (.d (.tuple (dFs r.1 r.2.2))), some (.d (dF (bnd ms (frs r.1 r.2.1)))), some (.d (dS ch)), o21] μ (.d (.tuple (dFs r.1 r.2.2))) := pu_var rfl
    have q19 : Pu (aVar 19) [o0, o1, some (.d (dCat c)), some (.d (dPat hd as)), o4, o5, o6, o7, o8, o9, o10, o11, o12, o13, some (.d (dS ord)), some (.d (.tuple (L.map (dRes ms)))), some (.d (.int (i : Nat))), some (.d (.tuple (dFs r.1 r.2.1))), some (.d (.tuple (dFs r.1 r.2.2))), some (.d (dF (bnd ms (frs r.1 r.2.1)))), some (.d (dS ch)), o21] μ (.d (dF (bnd ms (frs r.1 r.2.1)))) := pu_var rfl
    have t1 := put_not (put (pu_call3 (R := r_L_covers) (c := .d (.bool true)) q3 q20 q17 fun er Q z => ⟨hd, as, ch, r.1, r.2.1, rfl, k1, k3, z⟩))
    have t2 := put_not (put (pu_call3 (R := r_L_packs) (c := .d (.bool true)) q3 q20 q18 fun er Q z => ⟨hd, as, ch, r.1, r.2.2, rfl, k2, k4, z⟩))
    have s1 := pu_call1 (R := r_L_sum) (c := .d (dF (fr (isum r.2.1) r.1))) q17 fun er Q z => ⟨_, r.1, r.2.1, rfl, .inr rfl, k1.D1, k1.D8, k1.b, by have := k1.len; have := k1.n8; omega, z⟩
    have s2 := pu_call1 (R := r_L_sum) (c := .d (dF (fr (isum r.2.2) r.1))) q18 fun er Q z => ⟨_, r.1, r.2.2, rfl, .inr rfl, k2.D1, k2.D8, k2.b, by have := k2.len; have := k2.n8; omega, z⟩
    have t3 := pu_eqD (n := true) s1 s2 (depth_dF _)
    rw [eqv_dF, neg_true, k5, decide_eq_true rfl] at t3
    refine i_sifN (put_or t1 fun _ => put_or t2 fun _ => put t3) (fun hk => by cases hk) (fun _ => ?_)
    have q17' : Pu (aVar 17) [o0, o1, some (.d (dCat c)), some (.d (dPat hd as)), o4, o5, o6, o7, o8, o9, o10, o11, o12, o13, some (.d (dS ord)), some (.d (.tuple (L.map (dRes ms)))), some (.d (.int (i : Nat))), some (.d (.tuple (dFs r.1 r.2.1))), some (.d (.tuple (dFs r.1 r.2.2))), some (.d (dF (bnd ms (frs r.1 r.2.1)))), some (.d (dS ch)), o21] μ (.d (dCov (frs r.1 r.2.1))) := by rw [← dFs_cov]; exact q17
    have pb := pu_call3 (R := r_L_bound) (c := .d (dF (bnd ms (frs r.1 r.2.1)))) q2 q3 q17' fun er Q z => ⟨c, hd, as, frs r.1 r.2.1, ms, rfl, by have := X.hc.l3; omega, k6, X.M, k7, z⟩
    have t4 := pu_eqD (n := true) q19 pb (depth_dF _)
    rw [eqv_dF, neg_true, decide_eq_true rfl] at t4
    refine i_if (put t4) (fun hk => by cases hk) (fun _ => ?_)
    exact last_loop X h4 hs lL hL hZ q (i + 1) _ _ _ _ _ (by omega)
abbrev stD (CC CO : Addr) : ASt := (sSeq (sAsg (aCall r_L_shuffled (aCons (aVar 1) (aCons (aCall r_all_variables (aCons (aVar 3) aNil)) aNil))) (gN 14))
    (sSeq (sAsg (aCall (rTold CC CO) (aCons (aC (.int 1)) (aCons (aVar 2) (aCons (aVar 3) (aCons (aVar 14) aNil))))) (gN 15))
    (sSeq (sIf (aOr (aNot (aTest (aCB fIsi (aCons (aVar 15) (aCons (aV (.ty "tuple")) aNil))))) (aTest (aOp (fEq true) (aCB fLen (aCons (aVar 15) aNil)) (aCB fLen (aCons (aVar 14) aNil))))) (sRet (aC (.bool false))) sNext)
    (sSeq (sFor (aRg1 (aCons (aCB fLen (aCons (aVar 14) aNil)) aNil)) (gN 16) lastB)
    (sRet (aOp (fEq false) (aCall (rTold CC CO) (aCons (aC (.int 1)) (aCons (aVar 2) (aCons (aVar 3) (aCons (aSlT (aVar 14) (aSomeP (aC (.int 1))) aNoP) aNil))))) (aC (.str "order"))))))))
theorem stageD (X : Ctx c hd as ms) {j : Nat} {o : MO} {o14 o15 o16 o17 o18 o19 o20 : Option Cl} (hj : μ[j]? = some o) (ho : DrawO o) (hZ : ∀ μ', Z.rt (.d (.bool true)) μ') :
    stD CC CO Z [o0, some (.m j), some (.d (dCat c)), some (.d (dPat hd as)), o4, o5, o6, o7, o8, o9, o10, o11, o12, o13, o14, o15, o16, o17, o18, o19, o20, o21] μ := by
  have v4 := X.hp.vars4 X.hc
  have v1 := X.hp.vars1 X.hc
  have lo := (X.hp.good X.hc).len
  refine i_sasgN (i_call2 (R := r_L_shuffled) (pu_var (i := 1) rfl) (pu_call1 (R := r_all_variables) (c1 := .d (dPat hd as)) (c := .d (dS (varsOf as))) (pu_var (i := 3) rfl) fun er Q q => ⟨hd, as, rfl, lo, q⟩) ⟨j, o, varsOf as, rfl, hj, ho, by omega, fun ord o' hp ho' => ?_⟩)
  generalize μ.set j o' = μ1
  have le := hp.length_eq
  refine i_sasgN (i_call4 (R := rTold CC CO) (c2 := .d (dCat c)) (c3 := .d (dPat hd as)) (c4 := .d (dS ord)) (pu_c (d := .int 1)) (pu_var (i := 2) rfl) (pu_var (i := 3) rfl) (pu_var (i := 14) rfl) (told1_ok X hp fun L lL hL => ?_))
  have p15 : Pu (aVar 15) [o0, some (.m j), some (.d (dCat c)), some (.d (dPat hd as)), o4, o5, o6, o7, o8, o9, o10, o11, o12, o13, some (.d (dS ord)), some (.d (.tuple (L.map (dRes ms)))), o16, o17, o18, o19, o20, o21] μ1 (.d (.tuple (L.map (dRes ms)))) := pu_var rfl
  have p14 : Pu (aVar 14) [o0, some (.m j), some (.d (dCat c)), some (.d (dPat hd as)), o4, o5, o6, o7, o8, o9, o10, o11, o12, o13, some (.d (dS ord)), some (.d (.tuple (L.map (dRes ms)))), o16, o17, o18, o19, o20, o21] μ1 (.d (dS ord)) := pu_var rfl
  have l15 := pu_lenD p15 (l := L.map (dRes ms)) (.inr rfl)
  have l14 := pu_lenD p14 (l := ord.map PyData.str) (.inr rfl)
  rw [List.length_map] at l15 l14
  refine i_sifN (put_or (put_not (put (pu_isT p15))) fun _ => put (pu_eqI (n := true) l15 l14)) (fun hk => ?_) (fun _ => ?_)
  · rw [lL, decide_eq_true rfl] at hk
    cases hk
  refine i_sfor (i_rg1 l14 (by omega) ?_)
  rw [rgC0, List.range_eq_range']
  refine last_loop X (by omega) trivial lL hL (fun o16 o17 o18 o19 o20 => ?_) ord.length 0 o16 o17 o18 o19 o20 (by omega)
  have r14 : Pu (aVar 14) [o0, some (.m j), some (.d (dCat c)), some (.d (dPat hd as)), o4, o5, o6, o7, o8, o9, o10, o11, o12, o13, some (.d (dS ord)), some (.d (.tuple (L.map (dRes ms)))), o16, o17, o18, o19, o20, o21] μ1 (.d (dS ord)) := pu_var rfl
  have rs := pu_slFrom (k := 1) r14 (pu_c (d := .int 1))
  rw [← List.map_drop] at rs
  have rt := pu_call4 (R := rTold CC CO) (c := .d (.str "order")) (c2 := .d (dCat c)) (c3 := .d (dPat hd as)) (pu_c (d := .int 1)) (pu_var (i := 2) rfl) (pu_var (i := 3) rfl) rs fun er Q q => told1_no X (by rw [List.length_drop]; omega) (by rw [List.length_drop]; omega) q
  have re := pu_eqS (n := false) rt (pu_c (d := .str "order"))
  rw [decide_eq_true rfl] at re
  exact i_ret (D := Z) re (hZ μ1)
end
end Jh

set_option Elab.async false
set_option linter.all false
set_option maxRecDepth 100000
set_option maxHeartbeats 4000000
namespace Jh
open PySem PySem.Spec PyProof.Rows L2
theorem dvd_lcmL (a b : Int) : a ∣ lcmI a b := by
  unfold lcmI
  exact Int.natAbs_dvd_natAbs.mp (by rw [Int.natAbs_natCast]; exact Nat.dvd_lcm_left _ _)
theorem dvd_lcmR (a b : Int) : b ∣ lcmI a b := by
  unfold lcmI
  exact Int.natAbs_dvd_natAbs.mp (by rw [Int.natAbs_natCast]; exact Nat.dvd_lcm_right _ _)
theorem dvd_fold : ∀ (cov : List Frc) (q : Int), q ∣ cov.foldl (fun q f => lcmI q f.2) q ∧ ∀ f ∈ cov, f.2 ∣ cov.foldl (fun q f => lcmI q f.2) q
  | [], q => ⟨Int.dvd_refl q, fun f h => by cases h⟩
  | g :: cov, q => by
    obtain ⟨h1, h2⟩ := dvd_fold cov (lcmI q g.2)
    rw [List.foldl_cons]
    refine ⟨Int.dvd_trans (dvd_lcmL q g.2) h1, fun f hf => ?_⟩
    rcases List.mem_cons.mp hf with rfl | hf
    · exact Int.dvd_trans (dvd_lcmR q f.2) h1
    · exact h2 f hf
theorem mul_div {q d n : Int} (h : d ∣ q) : q * n / d = q / d * n := by
  obtain ⟨z, rfl⟩ := h
  by_cases hd : d = 0
  · subst hd; simp
  · rw [Int.mul_assoc, Int.mul_ediv_cancel_left _ hd, Int.mul_ediv_cancel_left _ hd]
section
variable {a b e e1 e2 e3 e4 e5 : AX} {ρ : En} {μ : Sto} {c x y : Cl} {D : AD} {d1 d2 d3 d4 d5 : PyData} {t : AT} {k : Bool}
theorem pu_tup5 (h1 : Pu e1 ρ μ (.d d1)) (h2 : Pu e2 ρ μ (.d d2)) (h3 : Pu e3 ρ μ (.d d3)) (h4 : Pu e4 ρ μ (.d d4)) (h5 : Pu e5 ρ μ (.d d5)) : Pu (aTup (aCons e1 (aCons e2 (aCons e3 (aCons e4 (aCons e5 aNil)))))) ρ μ (.d (.tuple [d1, d2, d3, d4, d5])) :=
  fun er Q q => h1 _ _ (h2 _ _ (h3 _ _ (h4 _ _ (h5 _ _ (And.intro (Nat.le_of_ble_eq_true rfl) q)))))
theorem pu_addT {xs ys : List PyData} (ha : Pu a ρ μ (.d (.tuple xs))) (hb : Pu b ρ μ (.d (.tuple ys))) (h : xs.length + ys.length ≤ 1000) : Pu (aOp fAdd a b) ρ μ (.d (.tuple (xs ++ ys))) := fun er Q q => ha er _ (hb er _ (And.intro h q))
theorem pu_repT {xs : List PyData} {n : Nat} (ha : Pu a ρ μ (.d (.tuple xs))) (hb : Pu b ρ μ (.d (.int (n : Nat)))) (h : xs ≠ []) (n1 : 1 ≤ n) (n2 : n ≤ 1000) (hl : xs.length ≤ 1000) : Pu (aOp fRepT a b) ρ μ (.d (.tuple (List.replicate n xs).flatten)) := fun er Q q => ha er _ (hb er _ (And.intro h (And.intro (by omega) (And.intro (by omega) (And.intro hl (by rw [Int.toNat_natCast]; exact q))))))
theorem i_ifE {er : Er} {Q : Cl → Sto → Prop} (h : PuT t ρ μ k) (h1 : k = true → a er ρ μ Q) (h2 : k = false → b er ρ μ Q) : aIf t a b er ρ μ Q := h er _ (by
  cases k with
  | true => exact h1 rfl
  | false => exact h2 rfl)
theorem i_max {ns : List Int} {er : Er} {Q : Cl → Sto → Prop} (ha : Pu a ρ μ (.d (.list (ns.map .int)))) (hne : 0 < ns.length) (h : ∀ m, m ∈ ns → (∀ y ∈ ns, y ≤ m) → Q (.d (.int m)) μ) : aCB fMaxI (aCons a aNil) er ρ μ Q := ha er _ (by
  show match allI ((ns.map PyData.int).map Cl.d) with | some ns => 0 < ns.length ∧ ∀ m, m ∈ ns → (∀ y ∈ ns, y ≤ m) → Q (.d (.int m)) μ | none => False
  have e : (ns.map PyData.int).map Cl.d = ns.map fun x => Cl.d (.int (id x)) := by rw [List.map_map]; rfl
  rw [e, allI_map, List.map_id]
  exact ⟨hne, h⟩)
theorem i_min {ns : List Int} {er : Er} {Q : Cl → Sto → Prop} (ha : Pu a ρ μ (.d (.list (ns.map .int)))) (hne : 0 < ns.length) (h : ∀ m, m ∈ ns → (∀ y ∈ ns, m ≤ y) → Q (.d (.int m)) μ) : aCB fMinI (aCons a aNil) er ρ μ Q := ha er _ (by
  show match allI ((ns.map PyData.int).map Cl.d) with | some ns => 0 < ns.length ∧ ∀ m, m ∈ ns → (∀ y ∈ ns, m ≤ y) → Q (.d (.int m)) μ | none => False
  have e : (ns.map PyData.int).map Cl.d = ns.map fun x => Cl.d (.int (id x)) := by rw [List.map_map]; rfl
  rw [e, allI_map, List.map_id]
  exact ⟨hne, h⟩)
end
/-! ### the covers that the law offers -/
def badOpts (cov : List Frc) : List (List Frc) := [cov ++ [(0, 1)], cov.drop 1, (-1, 2) :: cov.drop 1, (65, 1) :: cov.drop 1, List.replicate cov.length (33, 2)]
structure CovEl (f : Frc) : Prop where
  d : 1 ≤ f.2 ∧ f.2 ≤ 4
  n : 0 ≤ f.1 ∧ f.1 ≤ 5
  v : f.2 ∣ 12
theorem bad_ok {cov : List Frc} {n : Nat} (hl : cov.length = n) (n1 : 1 ≤ n) (n4 : n ≤ 4) (he : ∀ f ∈ cov, CovEl f) : ∀ b ∈ badOpts cov, b.length ≤ 5 ∧ (b.length = n → CovOk b) := by
  have hd : ∀ f ∈ cov.drop 1, CovEl f := fun f hf => he f (List.mem_of_mem_drop hf)
  have dl : (cov.drop 1).length = n - 1 := by rw [List.length_drop, hl]
  intro b hb
  have hb' : b = cov ++ [(0, 1)] ∨ b = cov.drop 1 ∨ b = (-1, 2) :: cov.drop 1 ∨ b = (65, 1) :: cov.drop 1 ∨ b = List.replicate cov.length (33, 2) := by simpa [badOpts] using hb
  rcases hb' with rfl | rfl | rfl | rfl | rfl
  · exact ⟨by simp; omega, fun h => by simp at h; omega⟩
  · exact ⟨by omega, fun h => by omega⟩
  · refine ⟨by rw [List.length_cons]; omega, fun h => ⟨by rw [List.length_cons]; omega, fun f hf => ?_, fun f hf => ?_⟩⟩
    · rcases List.mem_cons.mp hf with rfl | hf
      · exact ⟨by decide, by decide⟩
      · have := (hd f hf).d; omega
    · rcases List.mem_cons.mp hf with rfl | hf
      · exact ⟨by decide, by decide⟩
      · have := (hd f hf).n; omega
  · refine ⟨by rw [List.length_cons]; omega, fun h => ⟨by rw [List.length_cons]; omega, fun f hf => ?_, fun f hf => ?_⟩⟩
    · rcases List.mem_cons.mp hf with rfl | hf
      · exact ⟨by decide, by decide⟩
      · have := (hd f hf).d; omega
    · rcases List.mem_cons.mp hf with rfl | hf
      · exact ⟨by decide, by decide⟩
      · have := (hd f hf).n; omega
  · refine ⟨by rw [List.length_replicate]; omega, fun h => ⟨by rw [List.length_replicate]; omega, fun f hf => ?_, fun f hf => ?_⟩⟩
    · rw [(List.mem_replicate.mp hf).2]; exact ⟨by decide, by decide⟩
    · rw [(List.mem_replicate.mp hf).2]; exact ⟨by decide, by decide⟩
theorem five_at {b : List (List Frc)} {b0 b1 b2 b3 b4 : List Frc} (hb : b = [b0, b1, b2, b3, b4]) {μ : Sto} {Q : Cl → Sto → Prop} (v : Int) (h0 : 0 ≤ v) (h5 : v < 5) (h : ∀ x ∈ b, Q (.d (dCov x)) μ) : fIx (.d (.tuple [dCov b0, dCov b1, dCov b2, dCov b3, dCov b4])) (.d (.int v)) μ Q := by
  subst hb
  rcases (show v = 0 ∨ v = 1 ∨ v = 2 ∨ v = 3 ∨ v = 4 by omega) with rfl | rfl | rfl | rfl | rfl
  · exact h b0 (by simp)
  · exact h b1 (by simp)
  · exact h b2 (by simp)
  · exact h b3 (by simp)
  · exact h b4 (by simp)
abbrev stBad : AX := (aIx (aTup (aCons (aOp fAdd (aVar 5) (aTup (aCons (aTup (aCons (aC (.int 0)) (aCons (aC (.int 1)) aNil))) aNil))) (aCons (aSlT (aVar 5) (aSomeP (aC (.int 1))) aNoP) (aCons (aOp fAdd (aTup (aCons (aTup (aCons (aOp fSub (aC (.int 0)) (aC (.int 1))) (aCons (aC (.int 2)) aNil))) aNil)) (aSlT (aVar 5) (aSomeP (aC (.int 1))) aNoP)) (aCons (aOp fAdd (aTup (aCons (aTup (aCons (aC (.int 65)) (aCons (aC (.int 1)) aNil))) aNil)) (aSlT (aVar 5) (aSomeP (aC (.int 1))) aNoP)) (aCons (aOp fRepT (aTup (aCons (aTup (aCons (aC (.int 33)) (aCons (aC (.int 2)) aNil))) aNil)) (aCB fLen (aCons (aVar 5) aNil))) aNil)))))) (aCall r_L_take (aCons (aVar 1) (aCons (aC (.int 5)) aNil))))
abbrev stGreat : AX := (aIf (aTest (aOp (fEq false) (aCB fLen (aCons (aVar 11) aNil)) (aCB fLen (aCons (aVar 4) aNil)))) (aCB fMaxI (aCons (aFrz (aCat (aFrz (aLst (aCons (aC (.int 0)) aNil))) (aFrz (aLc 21 [21] (aSeqI (aVar 11)) aYes (aOp fDiv (aOp fMul (aIx (aCall r_L_bound (aCons (aVar 2) (aCons (aVar 3) (aCons (aVar 11) aNil)))) (aC (.int 0))) (aIx (aVar 21) (aC (.int 0)))) (aIx (aVar 21) (aC (.int 1)))))))) aNil)) (aC (.int 99)))
abbrev stLeast : AX := (aCB fMinI (aCons (aFrz (aCat (aFrz (aLst (aCons (aC (.int 0)) aNil))) (aFrz (aLc 21 [21] (aSeqI (aVar 11)) aYes (aIx (aVar 21) (aC (.int 0))))))) aNil))
abbrev stC (CC CO : Addr) (rest : ASt) : ASt := (sSeq (sAsg stBad (gN 11))
    (sSeq (sAsg stGreat (gN 12))
    (sSeq (sAsg stLeast (gN 13))
    (sSeq (sIf (aTest (aOp (fEq true) (aCall (rTold CC CO) (aCons (aC (.int 0)) (aCons (aVar 2) (aCons (aVar 3) (aCons (aVar 11) aNil))))) (aIf (aOr (aTest (aOp (fI pGt) (aVar 12) (aC (.int 64)))) (aTest (aOp fLt (aVar 13) (aC (.int 0))))) (aC (.str "cover")) (aCall r_L_bound (aCons (aVar 2) (aCons (aVar 3) (aCons (aVar 11) aNil))))))) (sRet (aC (.bool false))) sNext)
    rest))))
section
variable {CC CO : Addr} {c : List Tb} {hd : List Str} {as : List Atom} {ms : List Nat} {cov bad : List Frc} {j : Nat} {o0 o6 o7 o8 o9 o10 o11 o12 o13 o14 o15 o16 o17 o18 o19 o20 o21 : Option Cl} {μ : Sto} {Z : AD} {rest : ASt}
abbrev envC (o0 : Option Cl) (j : Nat) (c : List Tb) (hd : List Str) (as : List Atom) (cov : List Frc) (o6 o7 o8 o9 o10 o11 o12 o13 o14 o15 o16 o17 o18 o19 o20 o21 : Option Cl) : En := [o0, some (.m j), some (.d (dCat c)), some (.d (dPat hd as)), some (.d (.tuple (as.map dAtom))), some (.d (dCov cov)), o6, o7, o8, o9, o10, o11, o12, o13, o14, o15, o16, o17, o18, o19, o20, o21]
/-- behind great and least -/
theorem stC_end (X : Ctx c hd as ms) (b5 : bad.length ≤ 5) (ok : bad.length = as.length → CovOk bad) {g l : Int} (hg : (64 < g ∨ l < 0) ↔ ¬ OkB as bad)
    (h : rest Z (envC o0 j c hd as cov o6 o7 o8 o9 o10 (some (.d (dCov bad))) (some (.d (.int g))) (some (.d (.int l))) o14 o15 o16 o17 o18 o19 o20 o21) μ) :
    sSeq (sIf (aTest (aOp (fEq true) (aCall (rTold CC CO) (aCons (aC (.int 0)) (aCons (aVar 2) (aCons (aVar 3) (aCons (aVar 11) aNil))))) (aIf (aOr (aTest (aOp (fI pGt) (aVar 12) (aC (.int 64)))) (aTest (aOp fLt (aVar 13) (aC (.int 0))))) (aC (.str "cover")) (aCall r_L_bound (aCons (aVar 2) (aCons (aVar 3) (aCons (aVar 11) aNil))))))) (sRet (aC (.bool false))) sNext) rest Z
      (envC o0 j c hd as cov o6 o7 o8 o9 o10 (some (.d (dCov bad))) (some (.d (.int g))) (some (.d (.int l))) o14 o15 o16 o17 o18 o19 o20 o21) μ := by
  have p2 : Pu (aVar 2) (envC o0 j c hd as cov o6 o7 o8 o9 o10 (some (.d (dCov bad))) (some (.d (.int g))) (some (.d (.int l))) o14 o15 o16 o17 o18 o19 o20 o21) μ (.d (dCat c)) := pu_var rfl
  have p3 : Pu (aVar 3) (envC o0 j c hd as cov o6 o7 o8 o9 o10 (some (.d (dCov bad))) (some (.d (.int g))) (some (.d (.int l))) o14 o15 o16 o17 o18 o19 o20 o21) μ (.d (dPat hd as)) := pu_var rfl
  have p11 : Pu (aVar 11) (envC o0 j c hd as cov o6 o7 o8 o9 o10 (some (.d (dCov bad))) (some (.d (.int g))) (some (.d (.int l))) o14 o15 o16 o17 o18 o19 o20 o21) μ (.d (dCov bad)) := pu_var rfl
  have p12 : Pu (aVar 12) (envC o0 j c hd as cov o6 o7 o8 o9 o10 (some (.d (dCov bad))) (some (.d (.int g))) (some (.d (.int l))) o14 o15 o16 o17 o18 o19 o20 o21) μ (.d (.int g)) := pu_var rfl
  have p13 : Pu (aVar 13) (envC o0 j c hd as cov o6 o7 o8 o9 o10 (some (.d (dCov bad))) (some (.d (.int g))) (some (.d (.int l))) o14 o15 o16 o17 o18 o19 o20 o21) μ (.d (.int l)) := pu_var rfl
  have tt := put_or (put (pu_I (p := pGt) p12 (pu_c (d := .int 64)))) fun _ => put (pu_lt p13 (pu_c (d := .int 0)))
  by_cases hOk : OkB as bad
  · have ng : ¬ (64 < g ∨ l < 0) := fun z => (hg.mp z) hOk
    have e1 : (pGt g 64 || decide (l < 0)) = false := by
      unfold pGt
      rw [decide_eq_false (fun z => ng (.inl z)), decide_eq_false (fun z => ng (.inr z))]; rfl
    rw [e1] at tt
    have pt := pu_call4 (R := rTold CC CO) (c := .d (dF (bnd ms bad))) (pu_c (d := .int 0)) p2 p3 p11 fun er Q q => told0_ok X (by omega) ok hOk q
    have pb := pu_call3 (R := r_L_bound) (c := .d (dF (bnd ms bad))) p2 p3 p11 fun er Q z => ⟨c, hd, as, bad, ms, rfl, by have := X.hc.l3; omega, ok hOk.1, X.M, hOk.1, z⟩
    have pi := pu_if (a := aC (.str "cover")) (c := .d (dF (bnd ms bad))) tt (fun z => by cases z) fun _ => pb
    have pe := pu_eqD (n := true) pt pi (depth_dF _)
    rw [eqv_dF, decide_eq_true rfl] at pe
    exact i_sifN (put pe) (fun hk => by cases hk) fun _ => h
  · have yg := hg.mpr hOk
    have e1 : (pGt g 64 || decide (l < 0)) = true := by
      unfold pGt
      rcases yg with z | z
      · rw [decide_eq_true z]; rfl
      · rw [decide_eq_true z, Bool.or_true]
    rw [e1] at tt
    have pt := pu_call4 (R := rTold CC CO) (c := .d (.str "cover")) (pu_c (d := .int 0)) p2 p3 p11 fun er Q q => told0_no X (by omega) ok hOk q
    have pi := pu_if (b := aCall r_L_bound (aCons (aVar 2) (aCons (aVar 3) (aCons (aVar 11) aNil)))) (c := .d (.str "cover")) tt (fun _ => pu_c) (fun z => by cases z)
    have pe := pu_eqS (n := true) pt pi
    rw [decide_eq_true rfl] at pe
    exact i_sifN (put pe) (fun hk => by cases hk) fun _ => h
theorem stageC (X : Ctx c hd as ms) {o : MO} (hj : μ[j]? = some o) (ho : DrawO o) (cl : cov.length = as.length) (he : ∀ f ∈ cov, CovEl f)
    (h : ∀ μ' o' o11 o12 o13, μ'[j]? = some o' → DrawO o' → rest Z (envC o0 j c hd as cov o6 o7 o8 o9 o10 o11 o12 o13 o14 o15 o16 o17 o18 o19 o20 o21) μ') :
    stC CC CO rest Z (envC o0 j c hd as cov o6 o7 o8 o9 o10 o11 o12 o13 o14 o15 o16 o17 o18 o19 o20 o21) μ := by
  have n1 := X.hp.n1
  have n4 := X.hp.n4
  have q5 : Pu (aVar 5) (envC o0 j c hd as cov o6 o7 o8 o9 o10 o11 o12 o13 o14 o15 o16 o17 o18 o19 o20 o21) μ (.d (dCov cov)) := pu_var rfl
  have q5l := pu_lenD q5 (l := cov.map dF) (.inr rfl)
  rw [List.length_map] at q5l
  have qd := pu_slFrom (k := 1) q5 (pu_c (d := .int 1))
  rw [← List.map_drop] at qd
  have a0 := pu_addT q5 (pu_tup1 (pu_tup2 (pu_c (d := .int 0)) (pu_c (d := .int 1)))) (by simp; omega)
  have a2 := pu_addT (pu_tup1 (pu_tup2 (pu_sub (pu_c (d := .int 0)) (pu_c (d := .int 1))) (pu_c (d := .int 2)))) qd (by simp; omega)
  have a3 := pu_addT (pu_tup1 (pu_tup2 (pu_c (d := .int 65)) (pu_c (d := .int 1)))) qd (by simp; omega)
  have a4 := pu_repT (n := cov.length) (pu_tup1 (pu_tup2 (pu_c (d := .int 33)) (pu_c (d := .int 2)))) q5l (List.cons_ne_nil _ _) (by omega) (by omega) (by simp)
  have e0 : (cov.map dF ++ [PyData.tuple [.int 0, .int 1]]) = (cov ++ [((0, 1) : Frc)]).map dF := by rw [List.map_append]; rfl
  have e4 : (List.replicate cov.length [PyData.tuple [.int 33, .int 2]]).flatten = (List.replicate cov.length ((33, 2) : Frc)).map dF := by rw [rep_one, List.map_replicate]; rfl
  rw [e0] at a0
  rw [e4] at a4
  have pt := pu_tup5 a0 qd a2 a3 a4
  refine i_sasgN (i_ixB pt (i_call2 (R := r_L_take) (c1 := .m j) (c2 := .d (.int 5)) (pu_var (i := 1) rfl) pu_c ⟨j, 5, o, rfl, by omega, by omega, hj, ho, fun v o' v0 v5 ho' => five_at (b := badOpts cov) rfl v v0 v5 fun bad hb => ?_⟩))
  obtain ⟨b5, ok⟩ := bad_ok cl n1 n4 he bad hb
  have hj1 := at_same (o' := o') hj
  generalize μ.set j o' = μ1 at hj1
  -- great
  have p11 : Pu (aVar 11) (envC o0 j c hd as cov o6 o7 o8 o9 o10 (some (.d (dCov bad))) o12 o13 o14 o15 o16 o17 o18 o19 o20 o21) μ1 (.d (dCov bad)) := pu_var rfl
  have p4 : Pu (aVar 4) (envC o0 j c hd as cov o6 o7 o8 o9 o10 (some (.d (dCov bad))) o12 o13 o14 o15 o16 o17 o18 o19 o20 o21) μ1 (.d (.tuple (as.map dAtom))) := pu_var rfl
  have l11 := pu_lenD p11 (l := bad.map dF) (.inr rfl)
  have l4 := pu_lenD p4 (l := as.map dAtom) (.inr rfl)
  rw [List.length_map] at l11 l4
  -- what least adds
  have fin : ∀ g : Int, ((64 < g ∨ ∃ f ∈ bad, f.1 < 0) ↔ ¬ OkB as bad) →
      (sSeq (sAsg stLeast (gN 13)) (sSeq (sIf (aTest (aOp (fEq true) (aCall (rTold CC CO) (aCons (aC (.int 0)) (aCons (aVar 2) (aCons (aVar 3) (aCons (aVar 11) aNil))))) (aIf (aOr (aTest (aOp (fI pGt) (aVar 12) (aC (.int 64)))) (aTest (aOp fLt (aVar 13) (aC (.int 0))))) (aC (.str "cover")) (aCall r_L_bound (aCons (aVar 2) (aCons (aVar 3) (aCons (aVar 11) aNil))))))) (sRet (aC (.bool false))) sNext) rest)) Z
        (envC o0 j c hd as cov o6 o7 o8 o9 o10 (some (.d (dCov bad))) (some (.d (.int g))) o13 o14 o15 o16 o17 o18 o19 o20 o21) μ1 := by
    intro g hg
    have r11 : Pu (aVar 11) (envC o0 j c hd as cov o6 o7 o8 o9 o10 (some (.d (dCov bad))) (some (.d (.int g))) o13 o14 o15 o16 o17 o18 o19 o20 o21) μ1 (.d (dCov bad)) := pu_var rfl
    have pl : Pu (aFrz (aLc 21 [21] (aSeqI (aVar 11)) aYes (aIx (aVar 21) (aC (.int 0))))) (envC o0 j c hd as cov o6 o7 o8 o9 o10 (some (.d (dCov bad))) (some (.d (.int g))) o13 o14 o15 o16 o17 o18 o19 o20 o21) μ1 (.d (.list (bad.map fun f => .int f.1))) :=
      pu_lcD (g := fun f => .d (dF f)) (st := fun _ => True) (fun er Q q => i_seqD r11 (l := bad.map dF) (.inr rfl) (by rw [List.map_map]; exact q)) trivial (fun f hf => pu_ixD (i := 0) (d := dF f) (l := [.int f.1, .int f.2]) (pu_var rfl) pu_c (.inr rfl) rfl) (by omega)
    have pc := pu_cat (pu_lst1 (pu_c (d := .int 0))) pl rfl rfl (ds := ((0 : Int) :: bad.map fun f => f.1).map PyData.int) (by simp; omega) (by simp)
    refine i_sasgN (i_min pc (by simp) fun m hm hmin => ?_)
    refine stC_end X b5 ok ?_ (h μ1 o' _ _ _ hj1 ho')
    rw [← hg]
    have : m < 0 ↔ ∃ f ∈ bad, f.1 < 0 := by
      constructor
      · intro z
        rcases List.mem_cons.mp hm with rfl | hm
        · omega
        · obtain ⟨f, hf, rfl⟩ := List.mem_map.mp hm
          exact ⟨f, hf, z⟩
      · rintro ⟨f, hf, z⟩
        have := hmin f.1 (List.mem_cons_of_mem _ (List.mem_map.mpr ⟨f, hf, rfl⟩))
        omega
    rw [this]
  refine i_sasgN (i_ifE (put (pu_eqI (n := false) l11 l4)) (fun hk => ?_) (fun hk => ?_))
  · rw [neg_false] at hk
    have el : bad.length = as.length := by have := of_decide_eq_true hk; omega
    have cok := ok el
    have qb := qOf_bd cok
    have pl : Pu (aFrz (aLc 21 [21] (aSeqI (aVar 11)) aYes (aOp fDiv (aOp fMul (aIx (aCall r_L_bound (aCons (aVar 2) (aCons (aVar 3) (aCons (aVar 11) aNil)))) (aC (.int 0))) (aIx (aVar 21) (aC (.int 0)))) (aIx (aVar 21) (aC (.int 1)))))) (envC o0 j c hd as cov o6 o7 o8 o9 o10 (some (.d (dCov bad))) o12 o13 o14 o15 o16 o17 o18 o19 o20 o21) μ1 (.d (.list (bad.map fun f => .int (qOf bad * f.1 / f.2)))) :=
      pu_lcD (g := fun f => .d (dF f)) (st := fun _ => True) (fun er Q q => i_seqD p11 (l := bad.map dF) (.inr rfl) (by rw [List.map_map]; exact q)) trivial (fun f hf => by
        have fd := cok.den f hf
        have r2 : Pu (aVar 2) (envC o0 j c hd as cov o6 o7 o8 o9 o10 (some (.d (dCov bad))) o12 o13 o14 o15 o16 o17 o18 o19 o20 (some (.d (dF f)))) μ1 (.d (dCat c)) := pu_var rfl
        have r3 : Pu (aVar 3) (envC o0 j c hd as cov o6 o7 o8 o9 o10 (some (.d (dCov bad))) o12 o13 o14 o15 o16 o17 o18 o19 o20 (some (.d (dF f)))) μ1 (.d (dPat hd as)) := pu_var rfl
        have r11 : Pu (aVar 11) (envC o0 j c hd as cov o6 o7 o8 o9 o10 (some (.d (dCov bad))) o12 o13 o14 o15 o16 o17 o18 o19 o20 (some (.d (dF f)))) μ1 (.d (dCov bad)) := pu_var rfl
        have r21 : Pu (aVar 21) (envC o0 j c hd as cov o6 o7 o8 o9 o10 (some (.d (dCov bad))) o12 o13 o14 o15 o16 o17 o18 o19 o20 (some (.d (dF f)))) μ1 (.d (dF f)) := pu_var rfl
        have pb := pu_call3 (R := r_L_bound) (c := .d (dF (bnd ms bad))) r2 r3 r11 fun er Q z => ⟨c, hd, as, bad, ms, rfl, by have := X.hc.l3; omega, cok, X.M, el, z⟩
        exact pu_div (pu_mul (pu_ixD (i := 0) (l := [.int (qOf bad), .int (prodOf (qOf bad) ms bad 1)]) (d' := .int (qOf bad)) pb pu_c (.inr rfl) rfl) (pu_ixD (i := 0) (l := [.int f.1, .int f.2]) (d' := .int f.1) r21 pu_c (.inr rfl) rfl) (mulL (by omega))) (pu_ixD (i := 1) (l := [.int f.1, .int f.2]) (d' := .int f.2) r21 pu_c (.inr rfl) rfl) (divOk (by omega))) (by omega)
    have pc := pu_cat (pu_lst1 (pu_c (d := .int 0))) pl rfl rfl (ds := ((0 : Int) :: bad.map fun f => qOf bad * f.1 / f.2).map PyData.int) (by simp; omega) (by simp)
    refine i_max pc (by simp) fun m hm hmax => fin m ?_
    have ev : ∀ f ∈ bad, qOf bad * f.1 / f.2 = powOf (qOf bad) f := fun f hf => mul_div ((dvd_fold bad 1).2 f hf)
    have gm : 64 < m ↔ ∃ f ∈ bad, 64 < powOf (qOf bad) f := by
      constructor
      · intro z
        rcases List.mem_cons.mp hm with rfl | hm
        · omega
        · obtain ⟨f, hf, rfl⟩ := List.mem_map.mp hm
          exact ⟨f, hf, by rw [← ev f hf]; exact z⟩
      · rintro ⟨f, hf, z⟩
        have := hmax _ (List.mem_cons_of_mem _ (List.mem_map.mpr ⟨f, hf, rfl⟩))
        rw [ev f hf] at this
        omega
    rw [gm]
    constructor
    · rintro (⟨f, hf, z⟩ | ⟨f, hf, z⟩) hOk
      · have := hOk.2.2 f hf; omega
      · have := hOk.2.1 f hf; omega
    · intro hn
      by_cases z1 : ∃ f ∈ bad, 64 < powOf (qOf bad) f
      · exact .inl z1
      · by_cases z2 : ∃ f ∈ bad, f.1 < 0
        · exact .inr z2
        · refine absurd ⟨el, fun f hf => ?_, fun f hf => ?_⟩ hn
          · rcases Int.lt_or_le f.1 0 with z | z
            · exact absurd ⟨f, hf, z⟩ z2
            · exact z
          · rcases Int.lt_or_le 64 (powOf (qOf bad) f) with z | z
            · exact absurd ⟨f, hf, z⟩ z1
            · exact z
  · rw [neg_false] at hk
    have el : bad.length ≠ as.length := fun z => by have := of_decide_eq_false hk; omega
    refine pu_c (d := .int 99) _ _ (fin 99 ?_)
    exact ⟨fun _ hOk => el hOk.1, fun _ => .inl (by decide)⟩
end
end Jh

set_option Elab.async false
set_option linter.all false
set_option maxRecDepth 100000
set_option maxHeartbeats 4000000
namespace Jh
open PySem PySem.Spec PyProof.Rows L2
/-! ### near, within -/
theorem prod_nn (q : Int) : ∀ (ms : List Nat) (cov : List Frc) (p : Int), 0 ≤ p → 0 ≤ prodOf q ms cov p
  | [], cov, p, h => by cases cov <;> exact h
  | n :: ms, [], p, h => h
  | n :: ms, f :: cov, p, h => prod_nn q ms cov _ (Int.mul_nonneg h (Int.pow_nonneg (by omega)))
section
variable {CC CO : Addr} {c : List Tb} {hd : List Str} {as : List Atom} {ms : List Nat} {cov : List Frc} {j : Nat} {o0 o8 o9 o10 o11 o12 o13 o14 o15 o16 o17 o18 o19 o20 o21 : Option Cl} {μ : Sto} {Z : AD} {rest : ASt} {bq bp : Int}
abbrev stNear : ASt := sFor (aRg1 (aCons (aC (.int 40)) aNil)) (gN 8) (sIf (aTest (aCall r_keeps (aCons (aOp fAdd (aVar 7) (aC (.int 1))) (aCons (aVar 6) aNil)))) (sAsg (aOp fAdd (aVar 7) (aC (.int 1))) (gN 7)) sNext)
theorem near_loop {st : Sto → Prop} (hs : st μ) (q1 : 1 ≤ bq) (q2 : bq ≤ 1000) (hp : 0 ≤ bp) (hZ : ∀ (near : Int) o8, 0 ≤ near → near ≤ 100 → Z.nx (envC o0 j c hd as cov (some (.d (dF (bq, bp)))) (some (.d (.int near))) o8 o9 o10 o11 o12 o13 o14 o15 o16 o17 o18 o19 o20 o21) μ) :
    ∀ (xs : List Cl) (near : Int) (o8 : Option Cl), 0 ≤ near → near + xs.length ≤ 100 → forL (gN 8) (sIf (aTest (aCall r_keeps (aCons (aOp fAdd (aVar 7) (aC (.int 1))) (aCons (aVar 6) aNil)))) (sAsg (aOp fAdd (aVar 7) (aC (.int 1))) (gN 7)) sNext) st Z xs
      (envC o0 j c hd as cov (some (.d (dF (bq, bp)))) (some (.d (.int near))) o8 o9 o10 o11 o12 o13 o14 o15 o16 o17 o18 o19 o20 o21) μ
  | [], near, o8, h0, h1 => ⟨hs, hZ near o8 h0 (by simpa using h1)⟩
  | x :: xs, near, o8, h0, h1 => by
    simp only [List.length_cons] at h1
    refine ⟨hs, ?_⟩
    have p7 : Pu (aVar 7) (envC o0 j c hd as cov (some (.d (dF (bq, bp)))) (some (.d (.int near))) (some x) o9 o10 o11 o12 o13 o14 o15 o16 o17 o18 o19 o20 o21) μ (.d (.int near)) := pu_var rfl
    have p6 : Pu (aVar 6) (envC o0 j c hd as cov (some (.d (dF (bq, bp)))) (some (.d (.int near))) (some x) o9 o10 o11 o12 o13 o14 o15 o16 o17 o18 o19 o20 o21) μ (.d (dF (bq, bp))) := pu_var rfl
    have pn := pu_add p7 (pu_c (d := .int 1))
    refine i_if (put (pu_call2 (R := r_keeps) (c := .d (.bool (decide ((near + 1) ^ bq.toNat ≤ bp)))) pn p6 fun er Q q => ⟨near + 1, bq, bp, rfl, by omega, by omega, q1, q2, hp, q⟩)) (fun _ => ?_) (fun _ => ?_)
    · exact i_set pn (near_loop hs q1 q2 hp hZ xs (near + 1) _ (by omega) (by omega))
    · exact near_loop hs q1 q2 hp hZ xs near _ h0 (by omega)
abbrev witB : ASt := (sSeq (sAsg (aCall r_keeps (aCons (aVar 9) (aCons (aVar 6) aNil))) (gN 10))
    (sIf (aOr (aNot (aTest (aCB fIsi (aCons (aVar 10) (aCons (aV (.ty "bool")) aNil))))) (aTest (aOp (fEq true) (aVar 10) (aCall r_keeps (aCons (aVar 9) (aCons (aVar 6) aNil)))))) (sRet (aC (.bool false))) sNext))
theorem eqv_bool (a b : Bool) : PyData.eqv (.bool a) (.bool b) = decide (a = b) := PySem.W.Datum.eqv a b
theorem wit_loop {o7 : Option Cl} {st : Sto → Prop} (hs : st μ) (q1 : 1 ≤ bq) (q2 : bq ≤ 1000) (hp : 0 ≤ bp) (hZ : ∀ o9 o10, Z.nx (envC o0 j c hd as cov (some (.d (dF (bq, bp)))) o7 o8 o9 o10 o11 o12 o13 o14 o15 o16 o17 o18 o19 o20 o21) μ) :
    ∀ (xs : List Int) (o9 o10 : Option Cl), (∀ x ∈ xs, 0 ≤ x ∧ x ≤ 1000) → forL (gN 9) witB st Z ((xs.map PyData.int).map .d) (envC o0 j c hd as cov (some (.d (dF (bq, bp)))) o7 o8 o9 o10 o11 o12 o13 o14 o15 o16 o17 o18 o19 o20 o21) μ
  | [], o9, o10, _ => ⟨hs, hZ o9 o10⟩
  | x :: xs, o9, o10, h => by
    have hx := h x List.mem_cons_self
    refine ⟨hs, ?_⟩
    have p9 : Pu (aVar 9) (envC o0 j c hd as cov (some (.d (dF (bq, bp)))) o7 o8 (some (.d (.int x))) o10 o11 o12 o13 o14 o15 o16 o17 o18 o19 o20 o21) μ (.d (.int x)) := pu_var rfl
    have p6 : Pu (aVar 6) (envC o0 j c hd as cov (some (.d (dF (bq, bp)))) o7 o8 (some (.d (.int x))) o10 o11 o12 o13 o14 o15 o16 o17 o18 o19 o20 o21) μ (.d (dF (bq, bp))) := pu_var rfl
    refine i_sset (c := .d (.bool (decide (x ^ bq.toNat ≤ bp)))) (pu_call2 (R := r_keeps) p9 p6 fun er Q q => ⟨x, bq, bp, rfl, hx.1, hx.2, q1, q2, hp, q⟩) ?_
    generalize hb : decide (x ^ bq.toNat ≤ bp) = b
    have r9 : Pu (aVar 9) (envC o0 j c hd as cov (some (.d (dF (bq, bp)))) o7 o8 (some (.d (.int x))) (some (.d (.bool b))) o11 o12 o13 o14 o15 o16 o17 o18 o19 o20 o21) μ (.d (.int x)) := pu_var rfl
    have r6 : Pu (aVar 6) (envC o0 j c hd as cov (some (.d (dF (bq, bp)))) o7 o8 (some (.d (.int x))) (some (.d (.bool b))) o11 o12 o13 o14 o15 o16 o17 o18 o19 o20 o21) μ (.d (dF (bq, bp))) := pu_var rfl
    have r10 : Pu (aVar 10) (envC o0 j c hd as cov (some (.d (dF (bq, bp)))) o7 o8 (some (.d (.int x))) (some (.d (.bool b))) o11 o12 o13 o14 o15 o16 o17 o18 o19 o20 o21) μ (.d (.bool b)) := pu_var rfl
    have rk := pu_call2 (R := r_keeps) (c := .d (.bool b)) r9 r6 fun er Q q => ⟨x, bq, bp, rfl, hx.1, hx.2, q1, q2, hp, by rw [hb]; exact q⟩
    have re := pu_eqD (n := true) r10 rk (Nat.le_of_ble_eq_true rfl)
    rw [eqv_bool, decide_eq_true rfl] at re
    refine i_if (put_or (put_not (put (pu_isB r10))) fun _ => put re) (fun hk => by cases hk) (fun _ => ?_)
    exact wit_loop hs q1 q2 hp hZ xs _ _ fun y hy => h y (List.mem_cons_of_mem _ hy)
theorem i_tup6c {e1 e2 e3 e4 e5 e6 : AX} {ρ : En} {d1 d2 d3 d4 d5 : PyData} {er : Er} {Q : Cl → Sto → Prop} (h1 : Pu e1 ρ μ (.d d1)) (h2 : Pu e2 ρ μ (.d d2)) (h3 : Pu e3 ρ μ (.d d3)) (h4 : Pu e4 ρ μ (.d d4)) (h5 : Pu e5 ρ μ (.d d5)) (h6 : e6 er ρ μ fun c μ' => match allD [.d d1, .d d2, .d d3, .d d4, .d d5, c] with
  | some ds => ds.length ≤ 1000 ∧ Q (.d (.tuple ds)) μ'
  | none => False) : aTup (aCons e1 (aCons e2 (aCons e3 (aCons e4 (aCons e5 (aCons e6 aNil)))))) er ρ μ Q := h1 _ _ (h2 _ _ (h3 _ _ (h4 _ _ (h5 _ _ h6))))
theorem i_seqI0 {a : AX} {ρ : En} {er : Er} {Q : List Cl → (Sto → Prop) → Sto → Prop} (h : a er ρ μ fun c μ1 => match cellsOf c μ1 with
  | some xs => Q xs (stOf c xs) μ1
  | none => False) : aSeqI a er ρ μ Q := h
abbrev stB (rest : ASt) : ASt := (sSeq (sAsg (aC (.int 0)) (gN 7))
    (sSeq stNear
    (sSeq (sFor (aSeqI (aTup (aCons (aC (.int 0)) (aCons (aC (.int 1)) (aCons (aVar 7) (aCons (aOp fAdd (aVar 7) (aC (.int 1))) (aCons (aOp fAdd (aVar 7) (aC (.int 2))) (aCons (aCall r_L_take (aCons (aVar 1) (aCons (aC (.int 99)) aNil))) aNil)))))))) (gN 9) witB)
    rest)))
theorem stageB {o : MO} {o7 : Option Cl} (hj : μ[j]? = some o) (ho : DrawO o) (q1 : 1 ≤ bq) (q2 : bq ≤ 1000) (hp : 0 ≤ bp)
    (h : ∀ μ' o' o7 o8 o9 o10, μ'[j]? = some o' → DrawO o' → rest Z (envC o0 j c hd as cov (some (.d (dF (bq, bp)))) o7 o8 o9 o10 o11 o12 o13 o14 o15 o16 o17 o18 o19 o20 o21) μ') :
    stB rest Z (envC o0 j c hd as cov (some (.d (dF (bq, bp)))) o7 o8 o9 o10 o11 o12 o13 o14 o15 o16 o17 o18 o19 o20 o21) μ := by
  refine i_sset (c := .d (.int 0)) pu_c ?_
  refine i_sfor (i_rg1 (n := 40) pu_c (by omega) ?_)
  refine near_loop trivial q1 q2 hp (fun near o8 n0 n1 => ?_) (rgC 0 40) 0 o8 (by omega) (by rw [rgC_len]; decide)
  have p7 : Pu (aVar 7) (envC o0 j c hd as cov (some (.d (dF (bq, bp)))) (some (.d (.int near))) o8 o9 o10 o11 o12 o13 o14 o15 o16 o17 o18 o19 o20 o21) μ (.d (.int near)) := pu_var rfl
  have p71 := pu_add p7 (pu_c (d := .int 1))
  have p72 := pu_add p7 (pu_c (d := .int 2))
  refine i_sfor (i_seqI0 (i_tup6c (pu_c (d := .int 0)) (pu_c (d := .int 1)) p7 p71 p72 (i_call2 (R := r_L_take) (c1 := .m j) (c2 := .d (.int 99)) (pu_var (i := 1) rfl) pu_c ⟨j, 99, o, rfl, by omega, by omega, hj, ho, fun v o' v0 v1 ho' => ?_⟩)))
  refine And.intro (Nat.le_of_ble_eq_true rfl) ?_
  have hj1 := at_same (o' := o') hj
  exact wit_loop (st := fun _ => True) trivial q1 q2 hp (fun o9 o10 => h _ o' _ _ _ _ hj1 ho') [0, 1, near, near + 1, near + 2, v] o9 o10 (fun x hx => by
    have : x = 0 ∨ x = 1 ∨ x = near ∨ x = near + 1 ∨ x = near + 2 ∨ x = v := by simpa using hx
    omega)
end
end Jh

set_option Elab.async false
set_option linter.all false
set_option maxRecDepth 100000
set_option maxHeartbeats 4000000
namespace Jh
open PySem PySem.Spec PyProof.Rows L2
/-! ### the law -/
def r_law : RS := fun cs _ A _ => ∃ ns, cs = [.s ns] ∧ ns.length ≤ 900 ∧ ∀ μ', A (.d (.bool true)) μ'
theorem covEl_fr {a b : Int} (h : 0 ≤ a ∧ a < 6 ∧ 0 ≤ b ∧ b < 4) : CovEl (fr a (1 + b)) := by
  have k := fr_bd (a := a) (D := 1 + b) h.1 (by omega)
  obtain ⟨g, g0, e1, e2, e3⟩ := fr_spec (a := a) (D := 1 + b) (by omega)
  have dv : (fr a (1 + b)).2 ∣ 1 + b := ⟨g, e2.symm⟩
  refine ⟨⟨by omega, by omega⟩, ⟨by omega, by omega⟩, Int.dvd_trans dv ?_⟩
  rcases (show b = 0 ∨ b = 1 ∨ b = 2 ∨ b = 3 by omega) with rfl | rfl | rfl | rfl <;> decide
theorem lcL_frc {j jx : Nat} {μ L : Sto} {ρ : En} {e : AX} {st : Sto → Prop} {Q : List Cl → Sto → Prop} (hs : ∀ μ, st μ)
    (he : ∀ (x : Cl) (o : MO) (Q' : Cl → Sto → Prop), DrawO o → (∀ f o', CovEl f → DrawO o' → Q' (.d (dF f)) (S j μ L o')) → e (fun _ _ => False) (ρ.set jx (some x)) (S j μ L o) Q') :
    ∀ (xs : List Cl) (acc : List Frc) (o : MO), DrawO o → acc.length + xs.length ≤ 1000 → (∀ (vs : List Frc) o', vs.length = xs.length → (∀ f ∈ vs, CovEl f) → DrawO o' → Q ((acc ++ vs).map fun f => .d (dF f)) (S j μ L o')) → lcL jx ρ aYes e st Q xs (acc.map fun f => .d (dF f)) (S j μ L o)
  | [], acc, o, ho, _, h => ⟨hs _, by simpa using h [] o rfl (fun v hv => by cases hv) ho⟩
  | x :: xs, acc, o, ho, hl, h => by
    refine ⟨hs _, by simp at hl ⊢; omega, ?_⟩
    refine he x o _ ho fun f o' h1 h3 => ?_
    have r := lcL_frc (Q := Q) hs he xs (acc ++ [f]) o' h3 (by simp at hl ⊢; omega) fun vs o'' l1 l2 l3 => by
      have := h (f :: vs) o'' (by simp [l1]) (fun w hw => by
        rcases List.mem_cons.mp hw with rfl | hw
        · exact h1
        · exact l2 w hw) l3
      simpa using this
    rw [List.map_append] at r
    exact r
theorem okb_of {as : List Atom} {cov : List Frc} (n4 : as.length ≤ 4) (hl : cov.length = as.length) (he : ∀ f ∈ cov, CovEl f) : CovOk cov ∧ OkB as cov ∧ 1 ≤ qOf cov ∧ qOf cov ≤ 12 := by
  have ok : CovOk cov := ⟨by omega, fun f hf => by have := (he f hf).d; omega, fun f hf => by have := (he f hf).n; omega⟩
  have q1 := (qOf_bd ok).1
  have q12 : qOf cov ≤ 12 := qOf_le (by omega) fun f hf => (he f hf).v
  refine ⟨ok, ⟨hl, fun f hf => (he f hf).n.1, fun f hf => ?_⟩, q1, q12⟩
  have b := he f hf
  refine pow_le q1 b.d.1 b.n.1 ?_
  have h1 : qOf cov * f.1 ≤ 12 * f.1 := Int.mul_le_mul_of_nonneg_right q12 b.n.1
  have := b.n.2
  omega
theorem h_law {CC CO : Addr} (cs : List Cl) (μ : Sto) (A : Cl → Sto → Prop) (er : Er) (h : r_law cs μ A er) :
    a_law r_L_begin r_L_bound r_L_catalogue r_L_covers r_L_f r_keeps r_L_packs r_L_pattern r_L_shuffled r_L_sum r_L_take (rTold CC CO) r_all_variables r_keeps (bodyD μ A er) (startE ns_law cs) μ := by
  obtain ⟨ns, rfl, hl, h⟩ := h
  have hZ : ∀ μ', (bodyD μ A er).rt (.d (.bool true)) μ' := fun μ' => .inl (h μ')
  generalize bodyD μ A er = Z at hZ
  show a_law _ _ _ _ _ _ _ _ _ _ _ _ _ _ Z [some (.s ns), none, none, none, none, none, none, none, none, none, none, none, none, none, none, none, none, none, none, none, none, none] μ
  refine i_sasgN (i_call1 (R := r_L_begin) (c1 := .s ns) (pu_var rfl) ⟨ns, rfl, hl, fun o ho => ?_⟩)
  have hj : (μ ++ [o])[μ.length]? = some o := by simp
  generalize μ ++ [o] = μ1 at hj
  generalize μ.length = j at hj
  refine i_sasgN (i_call4 (R := r_L_catalogue) (c1 := .m j) (c2 := .d (.int 3)) (c3 := .d (.int 7)) (c4 := .d (.int 4)) (pu_var rfl) pu_c pu_c pu_c ⟨j, o, rfl, hj, ho, fun c o1 hc ho1 => ?_⟩)
  have hj1 := at_same (o' := o1) hj
  generalize μ1.set j o1 = μ2 at hj1
  refine i_sasgN (i_call4 (R := r_L_pattern) (c1 := .m j) (c2 := .d (dCat c)) (c3 := .d (.int 4)) (c4 := .d (.int 4)) (pu_var rfl) (pu_var rfl) pu_c pu_c ⟨j, o1, c, rfl, hj1, ho1, hc, fun hd as o2 hp ho2 => ?_⟩)
  have hj2 := at_same (o' := o2) hj1
  generalize μ2.set j o2 = μ3 at hj2
  obtain ⟨ms, M, m7⟩ := PatOk.ms hc hp
  have X : Ctx c hd as ms := ⟨hc, hp, M, m7⟩
  have n1 := hp.n1
  have n4 := hp.n4
  have p3 : Pu (aVar 3) [some (.s ns), some (.m j), some (.d (dCat c)), some (.d (dPat hd as)), none, none, none, none, none, none, none, none, none, none, none, none, none, none, none, none, none, none] μ3 (.d (dPat hd as)) := pu_var rfl
  refine i_sset (pu_ixD (i := 1) p3 (pu_c (d := .int 1)) (l := [dS hd, .tuple (as.map dAtom)]) (.inr rfl) rfl) ?_
  have p4 : Pu (aVar 4) [some (.s ns), some (.m j), some (.d (dCat c)), some (.d (dPat hd as)), some (.d (.tuple (as.map dAtom))), none, none, none, none, none, none, none, none, none, none, none, none, none, none, none, none, none] μ3 (.d (.tuple (as.map dAtom))) := pu_var rfl
  have l4 := pu_lenD p4 (l := as.map dAtom) (.inr rfl)
  rw [List.length_map] at l4
  have lj := at_lt hj2
  refine i_sasgN (i_tupLc (i_rg1 l4 (by omega) ?_))
  rw [S_nil hj2]
  refine lcL_frc (fun _ => trivial) (fun x o3 Q' ho3 q => ?_) (rgC 0 as.length) [] o2 ho2 (by rw [rgC_len]; simp; omega) fun cov o4 cl he ho4 => ?_
  · refine i_takeS (n := 6) lj ho3 (pu_var rfl) pu_c (by omega) (by omega) fun v o5 v0 v6 ho5 => ?_
    refine i_takeS (n := 4) lj ho5 (pu_var rfl) pu_c (by omega) (by omega) fun u o6 u0 u4 ho6 => ?_
    exact ⟨v, 1 + u, rfl, by omega, by omega, q _ o6 (covEl_fr ⟨v0, v6, u0, u4⟩) ho6⟩
  rw [rgC_len] at cl
  rw [List.nil_append]
  refine end_tupLc (ds := cov.map dF) (by rw [List.map_map]; rfl) ?_
  have hj4 : (S j μ3 [] o4)[j]? = some o4 := S_get lj
  generalize S j μ3 [] o4 = μ4 at hj4
  obtain ⟨ok, okb, q1, q12⟩ := okb_of n4 cl he
  have p2 : Pu (aVar 2) (envC (some (.s ns)) j c hd as cov none none none none none none none none none none none none none none none none) μ4 (.d (dCat c)) := pu_var rfl
  have p3 : Pu (aVar 3) (envC (some (.s ns)) j c hd as cov none none none none none none none none none none none none none none none none) μ4 (.d (dPat hd as)) := pu_var rfl
  have p5 : Pu (aVar 5) (envC (some (.s ns)) j c hd as cov none none none none none none none none none none none none none none none none) μ4 (.d (dCov cov)) := pu_var rfl
  refine i_sset (c := .d (dF (bnd ms cov))) (pu_call3 (R := r_L_bound) p2 p3 p5 fun er Q z => ⟨c, hd, as, cov, ms, rfl, by have := hc.l3; omega, ok, M, cl, z⟩) ?_
  have r2 : Pu (aVar 2) (envC (some (.s ns)) j c hd as cov (some (.d (dF (bnd ms cov)))) none none none none none none none none none none none none none none none) μ4 (.d (dCat c)) := pu_var rfl
  have r3 : Pu (aVar 3) (envC (some (.s ns)) j c hd as cov (some (.d (dF (bnd ms cov)))) none none none none none none none none none none none none none none none) μ4 (.d (dPat hd as)) := pu_var rfl
  have r5 : Pu (aVar 5) (envC (some (.s ns)) j c hd as cov (some (.d (dF (bnd ms cov)))) none none none none none none none none none none none none none none none) μ4 (.d (dCov cov)) := pu_var rfl
  have r6 : Pu (aVar 6) (envC (some (.s ns)) j c hd as cov (some (.d (dF (bnd ms cov)))) none none none none none none none none none none none none none none none) μ4 (.d (dF (bnd ms cov))) := pu_var rfl
  have pt := pu_call4 (R := rTold CC CO) (c := .d (dF (bnd ms cov))) (pu_c (d := .int 0)) r2 r3 r5 fun er Q q => told0_ok X (by omega) (fun _ => ok) okb q
  have pe := pu_eqD (n := true) pt r6 (depth_dF _)
  rw [eqv_dF, decide_eq_true rfl] at pe
  refine i_sifN (put pe) (fun hk => by cases hk) fun _ => ?_
  refine stageB (rest := stC CC CO (stD CC CO)) (bq := qOf cov) (bp := prodOf (qOf cov) ms cov 1) hj4 ho4 q1 (by omega) (prod_nn _ _ _ _ (by omega)) fun μ5 o5 o7 o8 o9 o10 hj5 ho5 => ?_
  refine stageC X hj5 ho5 cl he fun μ6 o6 o11 o12 o13 hj6 ho6 => ?_
  exact stageD X hj6 ho6 hZ
end Jh

set_option Elab.async false
set_option linter.all false
set_option maxRecDepth 100000
set_option maxHeartbeats 4000000
namespace Jh
open PySem PySem.Spec PyProof.Rows L2
/-! ### each def for its callers -/
structure Has (K : Frg) (x : Str) (st : Stmt) : Prop where
  ex : ∃ (f : Addr) (od an : Option Addr) (sl : Array (Option Value)) (oc kV dc pm cd ct : Value), PySem.W.nsIn K mainGlobals x = some (some (.ref f)) ∧ K.lookup f = some ⟨oc, od, .func (PySem.W.fnOf x x (defArgs st) (defBody st) (defScope st) .none kV dc pm an cd ct), sl⟩ ∧ PySem.W.codeIn K cd x = true ∧ PySem.W.keepIn K (.ref f) = true
theorem has_mk {K : Frg} {x : Str} {st : Stmt} {f : Addr} {od an : Option Addr} {sl : Array (Option Value)} {oc kV dc pm cd ct : Value} (a : PySem.W.nsIn K mainGlobals x = some (some (.ref f))) (l : K.lookup f = some ⟨oc, od, .func (PySem.W.fnOf x x (defArgs st) (defBody st) (defScope st) .none kV dc pm an cd ct), sl⟩) (c : PySem.W.codeIn K cd x = true) (k : PySem.W.keepIn K (.ref f) = true) : Has K x st := ⟨f, od, an, sl, oc, kV, dc, pm, cd, ct, a, l, c, k⟩
structure HasM (K : Frg) (C : Addr) (m qual : Str) (st : Stmt) : Prop where
  ex : ∃ (f : Addr) (od an : Option Addr) (sl : Array (Option Value)) (oc kV dc pm cd ct : Value), PySem.W.findIn K (.ref C) m = some (some (.ref f)) ∧ PySem.W.isFn K (.ref f) = true ∧ K.lookup f = some ⟨oc, od, .func (PySem.W.fnOf m qual (defArgs st) (defBody st) (defScope st) .none kV dc pm an cd ct), sl⟩ ∧ PySem.W.codeIn K cd qual = true ∧ PySem.W.keepIn K (.ref f) = true
theorem hasM_mk {K : Frg} {C : Addr} {m qual : Str} {st : Stmt} {f : Addr} {od an : Option Addr} {sl : Array (Option Value)} {oc kV dc pm cd ct : Value} (a : PySem.W.findIn K (.ref C) m = some (some (.ref f))) (i : PySem.W.isFn K (.ref f) = true) (l : K.lookup f = some ⟨oc, od, .func (PySem.W.fnOf m qual (defArgs st) (defBody st) (defScope st) .none kV dc pm an cd ct), sl⟩) (c : PySem.W.codeIn K cd qual = true) (k : PySem.W.keepIn K (.ref f) = true) : HasM K C m qual st := ⟨f, od, an, sl, oc, kV, dc, pm, cd, ct, a, i, l, c, k⟩
abbrev XcF (P : Program) (w : World) (K : Frg) (mg : Str → Option Value) (base : Heap) (x : Str) (D : Addr) : Prop := ∀ sc N k E fn, ExF ⟨P, w, K, mg, base, N, sc, k, E, fn⟩ x D
section
variable {P : Program} {w : World} {K : Frg} {mg : Str → Option Value} {base h : Heap} {C CC CO : Addr} (X : K.In h) (G : h.Ns mainGlobals mg) (T : Tx K mg C)
include X G T

theorem cal_is_name (H : Has K "is_name" st_is_name)   : Cal P w K mg base 1 "is_name" r_is_name := by
  obtain ⟨f, od, an, sl, oc, kV, dc, pm, cd, ct, a, l, c, k⟩ := H
  have F := fun_mk (st := st_is_name) l c k
  have b := F.binds (ps := ["word"]) fun _ _ _ _ _ _ us hl => match us, hl with | [_], _ => rfl
  exact ⟨⟨f, _, ["word"], fn_ok (k := 0) F sc_is_name (fun cs μ A er h => by obtain ⟨_, rfl, _⟩ := h; rfl) (fun E => dv_is_name T E  ) h_is_name, PySem.W.mg_of X G a, k, b⟩⟩
theorem cal_right_row (H : Has K "right_row" st_right_row)   : Cal P w K mg base 1 "right_row" r_right_row := by
  obtain ⟨f, od, an, sl, oc, kV, dc, pm, cd, ct, a, l, c, k⟩ := H
  have F := fun_mk (st := st_right_row) l c k
  have b := F.binds (ps := ["columns", "row"]) fun _ _ _ _ _ _ us hl => match us, hl with | [_, _], _ => rfl
  exact ⟨⟨f, _, ["columns", "row"], fn_ok (k := 0) F sc_right_row (fun cs μ A er h => by obtain ⟨_, _, rfl, _⟩ := h; rfl) (fun E => dv_right_row T E  ) h_right_row, PySem.W.mg_of X G a, k, b⟩⟩
theorem cal_ascend (H : Has K "ascend" st_ascend)   : Cal P w K mg base 1 "ascend" r_ascend := by
  obtain ⟨f, od, an, sl, oc, kV, dc, pm, cd, ct, a, l, c, k⟩ := H
  have F := fun_mk (st := st_ascend) l c k
  have b := F.binds (ps := ["items"]) fun _ _ _ _ _ _ us hl => match us, hl with | [_], _ => rfl
  exact ⟨⟨f, _, ["items"], fn_ok (k := 0) F sc_ascend (fun cs μ A er h => by obtain ⟨_, _, rfl, _⟩ := h; rfl) (fun E => dv_ascend T E  ) h_ascend, PySem.W.mg_of X G a, k, b⟩⟩
theorem cal_right_table (H : Has K "right_table" st_right_table) (C_ascend : Cal P w K mg base 1 "ascend" r_ascend) (C_is_name : Cal P w K mg base 1 "is_name" r_is_name) (C_right_row : Cal P w K mg base 1 "right_row" r_right_row)  : Cal P w K mg base 2 "right_table" r_right_table := by
  obtain ⟨f, od, an, sl, oc, kV, dc, pm, cd, ct, a, l, c, k⟩ := H
  have F := fun_mk (st := st_right_table) l c k
  have b := F.binds (ps := ["table"]) fun _ _ _ _ _ _ us hl => match us, hl with | [_], _ => rfl
  exact ⟨⟨f, _, ["table"], fn_ok (k := 1) F sc_right_table (fun cs μ A er h => by obtain ⟨_, rfl, _⟩ := h; rfl) (fun E => dv_right_table T E C_ascend C_is_name C_right_row ) h_right_table, PySem.W.mg_of X G a, k, b⟩⟩
theorem cal_check_catalogue (H : Has K "check_catalogue" st_check_catalogue) (C_ascend : Cal P w K mg base 1 "ascend" r_ascend) (C_right_table : Cal P w K mg base 2 "right_table" r_right_table)  : Cal P w K mg base 3 "check_catalogue" r_check_catalogue := by
  obtain ⟨f, od, an, sl, oc, kV, dc, pm, cd, ct, a, l, c, k⟩ := H
  have F := fun_mk (st := st_check_catalogue) l c k
  have b := F.binds (ps := ["catalogue"]) fun _ _ _ _ _ _ us hl => match us, hl with | [_], _ => rfl
  exact ⟨⟨f, _, ["catalogue"], fn_ok (k := 2) F sc_check_catalogue (fun cs μ A er h => by obtain ⟨_, rfl, _⟩ := h; rfl) (fun E => dv_check_catalogue T E C_ascend C_right_table ) h_check_catalogue, PySem.W.mg_of X G a, k, b⟩⟩
theorem cal_place_of (H : Has K "place_of" st_place_of)   : Cal P w K mg base 1 "place_of" r_place_of := by
  obtain ⟨f, od, an, sl, oc, kV, dc, pm, cd, ct, a, l, c, k⟩ := H
  have F := fun_mk (st := st_place_of) l c k
  have b := F.binds (ps := ["catalogue", "name"]) fun _ _ _ _ _ _ us hl => match us, hl with | [_, _], _ => rfl
  exact ⟨⟨f, _, ["catalogue", "name"], fn_ok (k := 0) F sc_place_of (fun cs μ A er h => by obtain ⟨_, _, _, _, rfl, _⟩ := h; rfl) (fun E => dv_place_of T E  ) h_place_of, PySem.W.mg_of X G a, k, b⟩⟩
theorem cal_table_at (H : Has K "table_at" st_table_at) (C_place_of : Cal P w K mg base 1 "place_of" r_place_of)  : Cal P w K mg base 2 "table_at" r_table_at := by
  obtain ⟨f, od, an, sl, oc, kV, dc, pm, cd, ct, a, l, c, k⟩ := H
  have F := fun_mk (st := st_table_at) l c k
  have b := F.binds (ps := ["catalogue", "name"]) fun _ _ _ _ _ _ us hl => match us, hl with | [_, _], _ => rfl
  exact ⟨⟨f, _, ["catalogue", "name"], fn_ok (k := 1) F sc_table_at (fun cs μ A er h => by obtain ⟨_, _, _, _, rfl, _⟩ := h; rfl) (fun E => dv_table_at T E C_place_of ) h_table_at, PySem.W.mg_of X G a, k, b⟩⟩
theorem cal_all_variables (H : Has K "all_variables" st_all_variables)   : Cal P w K mg base 1 "all_variables" r_all_variables := by
  obtain ⟨f, od, an, sl, oc, kV, dc, pm, cd, ct, a, l, c, k⟩ := H
  have F := fun_mk (st := st_all_variables) l c k
  have b := F.binds (ps := ["pattern"]) fun _ _ _ _ _ _ us hl => match us, hl with | [_], _ => rfl
  exact ⟨⟨f, _, ["pattern"], fn_ok (k := 0) F sc_all_variables (fun cs μ A er h => by obtain ⟨_, _, rfl, _⟩ := h; rfl) (fun E => dv_all_variables T E  ) h_all_variables, PySem.W.mg_of X G a, k, b⟩⟩
theorem cal_right_atoms (H : Has K "right_atoms" st_right_atoms) (C_is_name : Cal P w K mg base 1 "is_name" r_is_name)  : Cal P w K mg base 2 "right_atoms" r_right_atoms := by
  obtain ⟨f, od, an, sl, oc, kV, dc, pm, cd, ct, a, l, c, k⟩ := H
  have F := fun_mk (st := st_right_atoms) l c k
  have b := F.binds (ps := ["atoms"]) fun _ _ _ _ _ _ us hl => match us, hl with | [_], _ => rfl
  exact ⟨⟨f, _, ["atoms"], fn_ok (k := 1) F sc_right_atoms (fun cs μ A er h => by obtain ⟨_, rfl, _⟩ := h; rfl) (fun E => dv_right_atoms T E C_is_name ) h_right_atoms, PySem.W.mg_of X G a, k, b⟩⟩
theorem cal_check_pattern (H : Has K "check_pattern" st_check_pattern) (C_all_variables : Cal P w K mg base 1 "all_variables" r_all_variables) (C_right_atoms : Cal P w K mg base 2 "right_atoms" r_right_atoms)  : Cal P w K mg base 3 "check_pattern" r_check_pattern := by
  obtain ⟨f, od, an, sl, oc, kV, dc, pm, cd, ct, a, l, c, k⟩ := H
  have F := fun_mk (st := st_check_pattern) l c k
  have b := F.binds (ps := ["pattern"]) fun _ _ _ _ _ _ us hl => match us, hl with | [_], _ => rfl
  exact ⟨⟨f, _, ["pattern"], fn_ok (k := 2) F sc_check_pattern (fun cs μ A er h => by obtain ⟨_, _, rfl, _⟩ := h; rfl) (fun E => dv_check_pattern T E C_all_variables C_right_atoms ) h_check_pattern, PySem.W.mg_of X G a, k, b⟩⟩
theorem cal_check_fit (H : Has K "check_fit" st_check_fit) (C_check_catalogue : Cal P w K mg base 3 "check_catalogue" r_check_catalogue) (C_check_pattern : Cal P w K mg base 3 "check_pattern" r_check_pattern) (C_table_at : Cal P w K mg base 2 "table_at" r_table_at)  : Cal P w K mg base 4 "check_fit" r_check_fit := by
  obtain ⟨f, od, an, sl, oc, kV, dc, pm, cd, ct, a, l, c, k⟩ := H
  have F := fun_mk (st := st_check_fit) l c k
  have b := F.binds (ps := ["catalogue", "pattern"]) fun _ _ _ _ _ _ us hl => match us, hl with | [_, _], _ => rfl
  exact ⟨⟨f, _, ["catalogue", "pattern"], fn_ok (k := 3) F sc_check_fit (fun cs μ A er h => by obtain ⟨_, _, _, rfl, _⟩ := h; rfl) (fun E => dv_check_fit T E C_check_catalogue C_check_pattern C_table_at ) h_check_fit, PySem.W.mg_of X G a, k, b⟩⟩
theorem cal_check_order (H : Has K "check_order" st_check_order) (C_all_variables : Cal P w K mg base 1 "all_variables" r_all_variables) (T_OrderError : XcF P w K mg base "OrderError" CO) : Cal P w K mg base 2 "check_order" (r_check_order CO) := by
  obtain ⟨f, od, an, sl, oc, kV, dc, pm, cd, ct, a, l, c, k⟩ := H
  have F := fun_mk (st := st_check_order) l c k
  have b := F.binds (ps := ["pattern", "order"]) fun _ _ _ _ _ _ us hl => match us, hl with | [_, _], _ => rfl
  exact ⟨⟨f, _, ["pattern", "order"], fn_ok (k := 1) F sc_check_order (fun cs μ A er h => by obtain ⟨_, _, _, rfl, _⟩ := h; rfl) (fun E => dv_check_order T E C_all_variables T_OrderError) (h_check_order CO), PySem.W.mg_of X G a, k, b⟩⟩
theorem cal_fraction (H : Has K "fraction" st_fraction)   : Cal P w K mg base 1 "fraction" r_fraction := by
  obtain ⟨f, od, an, sl, oc, kV, dc, pm, cd, ct, a, l, c, k⟩ := H
  have F := fun_mk (st := st_fraction) l c k
  have b := F.binds (ps := ["numerator", "denominator"]) fun _ _ _ _ _ _ us hl => match us, hl with | [_, _], _ => rfl
  exact ⟨⟨f, _, ["numerator", "denominator"], fn_ok (k := 0) F sc_fraction (fun cs μ A er h => by obtain ⟨_, _, rfl, _⟩ := h; rfl) (fun E => dv_fraction T E  ) h_fraction, PySem.W.mg_of X G a, k, b⟩⟩
theorem cal_tab_init (H : HasM K C "__init__" "Tableau.__init__" st_tab_init) (mk : PySem.W.makesIn K C = true) (kc : PySem.W.keepIn K (.ref C) = true) (aC : PySem.W.nsIn K mainGlobals "Tableau" = some (some (.ref C)))   : Mkr P w K mg base 1 C "Tableau" (r_tab_init C) := by
  obtain ⟨f, od, an, sl, oc, kV, dc, pm, cd, ct, a, i, l, c, k⟩ := H
  have F := fun_mk (st := st_tab_init) l c k
  have b := F.binds (ps := ["self", "sets", "many"]) fun _ _ _ _ _ _ us hl => match us, hl with | [_, _, _], _ => rfl
  exact ⟨⟨f, _, ["self", "sets", "many"], fn_ok0 (k := 0) F sc_tab_init (fun cs μ A er h => by obtain ⟨_, _, _, _, _, rfl, _⟩ := h; rfl) (dv_tab_init T  ) (h_tab_init C), ⟨mk, a, i, kc⟩, PySem.W.mg_of X G aC, b⟩⟩
theorem cal_tab_pivot (H : HasM K C "pivot" "Tableau.pivot" st_tab_pivot)    : Mtd P w K mg base 1 C "pivot" (r_tab_pivot C) := by
  obtain ⟨f, od, an, sl, oc, kV, dc, pm, cd, ct, a, i, l, c, k⟩ := H
  have F := fun_mk (st := st_tab_pivot) l c k
  have b := F.binds (ps := ["self", "r", "k"]) fun _ _ _ _ _ _ us hl => match us, hl with | [_, _, _], _ => rfl
  exact ⟨⟨f, _, ["self", "r", "k"], fn_ok0 (k := 0) F sc_tab_pivot (fun cs μ A er h => by obtain ⟨_, _, _, _, _, _, _, _, _, _, _, rfl, _⟩ := h; rfl) (dv_tab_pivot T  ) (h_tab_pivot C), T.cl, ⟨a, i, k⟩, b⟩⟩
theorem cal_tab_wrong (H : HasM K C "wrong" "Tableau.wrong" st_tab_wrong)    : Mtd P w K mg base 1 C "wrong" (r_tab_wrong C) := by
  obtain ⟨f, od, an, sl, oc, kV, dc, pm, cd, ct, a, i, l, c, k⟩ := H
  have F := fun_mk (st := st_tab_wrong) l c k
  have b := F.binds (ps := ["self"]) fun _ _ _ _ _ _ us hl => match us, hl with | [_], _ => rfl
  exact ⟨⟨f, _, ["self"], fn_ok0 (k := 0) F sc_tab_wrong (fun cs μ A er h => by obtain ⟨_, _, _, _, _, _, _, _, _, rfl, _⟩ := h; rfl) (dv_tab_wrong T  ) (h_tab_wrong C), T.cl, ⟨a, i, k⟩, b⟩⟩
theorem cal_tab_solve (H : HasM K C "solve" "Tableau.solve" st_tab_solve)  (C_tab_pivot : Mtd P w K mg base 1 C "pivot" (r_tab_pivot C)) (C_tab_wrong : Mtd P w K mg base 1 C "wrong" (r_tab_wrong C))  : Mtd P w K mg base 2 C "solve" (r_tab_solve C) := by
  obtain ⟨f, od, an, sl, oc, kV, dc, pm, cd, ct, a, i, l, c, k⟩ := H
  have F := fun_mk (st := st_tab_solve) l c k
  have b := F.binds (ps := ["self"]) fun _ _ _ _ _ _ us hl => match us, hl with | [_], _ => rfl
  exact ⟨⟨f, _, ["self"], fn_ok0 (k := 1) F sc_tab_solve (fun cs μ A er h => by obtain ⟨_, _, _, _, rfl, _⟩ := h; rfl) (dv_tab_solve T C_tab_pivot C_tab_wrong ) (h_tab_solve C), T.cl, ⟨a, i, k⟩, b⟩⟩
theorem cal_tab_fractions (H : HasM K C "fractions" "Tableau.fractions" st_tab_fractions)  (C_fraction : Cal P w K mg base 1 "fraction" r_fraction)  : Mtd P w K mg base 2 C "fractions" (r_tab_fractions C) := by
  obtain ⟨f, od, an, sl, oc, kV, dc, pm, cd, ct, a, i, l, c, k⟩ := H
  have F := fun_mk (st := st_tab_fractions) l c k
  have b := F.binds (ps := ["self"]) fun _ _ _ _ _ _ us hl => match us, hl with | [_], _ => rfl
  exact ⟨⟨f, _, ["self"], fn_ok0 (k := 1) F sc_tab_fractions (fun cs μ A er h => by obtain ⟨_, _, _, _, rfl, _⟩ := h; rfl) (dv_tab_fractions T C_fraction ) (h_tab_fractions C), T.cl, ⟨a, i, k⟩, b⟩⟩
theorem cal_tab_weights (H : HasM K C "weights" "Tableau.weights" st_tab_weights)  (C_fraction : Cal P w K mg base 1 "fraction" r_fraction)  : Mtd P w K mg base 2 C "weights" (r_tab_weights C) := by
  obtain ⟨f, od, an, sl, oc, kV, dc, pm, cd, ct, a, i, l, c, k⟩ := H
  have F := fun_mk (st := st_tab_weights) l c k
  have b := F.binds (ps := ["self"]) fun _ _ _ _ _ _ us hl => match us, hl with | [_], _ => rfl
  exact ⟨⟨f, _, ["self"], fn_ok0 (k := 1) F sc_tab_weights (fun cs μ A er h => by obtain ⟨_, _, _, _, rfl, _⟩ := h; rfl) (dv_tab_weights T C_fraction ) (h_tab_weights C), T.cl, ⟨a, i, k⟩, b⟩⟩
theorem cal_best_pair (H : Has K "best_pair" st_best_pair) (C_tab_init : Mkr P w K mg base 1 C "Tableau" (r_tab_init C)) (C_tab_fractions : Mtd P w K mg base 2 C "fractions" (r_tab_fractions C)) (C_tab_solve : Mtd P w K mg base 2 C "solve" (r_tab_solve C)) (C_tab_weights : Mtd P w K mg base 2 C "weights" (r_tab_weights C))  : Cal P w K mg base 3 "best_pair" r_best_pair := by
  obtain ⟨f, od, an, sl, oc, kV, dc, pm, cd, ct, a, l, c, k⟩ := H
  have F := fun_mk (st := st_best_pair) l c k
  have b := F.binds (ps := ["sets", "many"]) fun _ _ _ _ _ _ us hl => match us, hl with | [_, _], _ => rfl
  exact ⟨⟨f, _, ["sets", "many"], fn_ok (k := 2) F sc_best_pair (fun cs μ A er h => by obtain ⟨_, _, _, rfl, _⟩ := h; rfl) (fun E => dv_best_pair T E C_tab_init C_tab_fractions C_tab_solve C_tab_weights ) (h_best_pair C), PySem.W.mg_of X G a, k, b⟩⟩
theorem cal_right_numbers (H : Has K "right_numbers" st_right_numbers)   : Cal P w K mg base 1 "right_numbers" r_right_numbers := by
  obtain ⟨f, od, an, sl, oc, kV, dc, pm, cd, ct, a, l, c, k⟩ := H
  have F := fun_mk (st := st_right_numbers) l c k
  have b := F.binds (ps := ["numbers", "many"]) fun _ _ _ _ _ _ us hl => match us, hl with | [_, _], _ => rfl
  exact ⟨⟨f, _, ["numbers", "many"], fn_ok (k := 0) F sc_right_numbers (fun cs μ A er h => by obtain ⟨_, _, rfl, _⟩ := h; rfl) (fun E => dv_right_numbers T E  ) h_right_numbers, PySem.W.mg_of X G a, k, b⟩⟩
theorem cal_best_for (H : Has K "best_for" st_best_for) (C_best_pair : Cal P w K mg base 3 "best_pair" r_best_pair)  : Cal P w K mg base 4 "best_for" r_best_for := by
  obtain ⟨f, od, an, sl, oc, kV, dc, pm, cd, ct, a, l, c, k⟩ := H
  have F := fun_mk (st := st_best_for) l c k
  have b := F.binds (ps := ["pattern", "chosen"]) fun _ _ _ _ _ _ us hl => match us, hl with | [_, _], _ => rfl
  exact ⟨⟨f, _, ["pattern", "chosen"], fn_ok (k := 3) F sc_best_for (fun cs μ A er h => by obtain ⟨_, _, _, rfl, _⟩ := h; rfl) (fun E => dv_best_for T E C_best_pair ) h_best_for, PySem.W.mg_of X G a, k, b⟩⟩
theorem cal_bound_for (H : Has K "bound_for" st_bound_for) (C_table_at : Cal P w K mg base 2 "table_at" r_table_at) (T_CoverError : XcF P w K mg base "CoverError" CC) : Cal P w K mg base 3 "bound_for" (r_bound_for CC) := by
  obtain ⟨f, od, an, sl, oc, kV, dc, pm, cd, ct, a, l, c, k⟩ := H
  have F := fun_mk (st := st_bound_for) l c k
  have b := F.binds (ps := ["catalogue", "pattern", "cover"]) fun _ _ _ _ _ _ us hl => match us, hl with | [_, _, _], _ => rfl
  exact ⟨⟨f, _, ["catalogue", "pattern", "cover"], fn_ok (k := 2) F sc_bound_for (fun cs μ A er h => by obtain ⟨_, _, _, _, _, rfl, _⟩ := h; rfl) (fun E => dv_bound_for T E C_table_at T_CoverError) (h_bound_for CC), PySem.W.mg_of X G a, k, b⟩⟩
theorem cal_bound_of (H : Has K "bound_of" st_bound_of) (C_bound_for : Cal P w K mg base 3 "bound_for" (r_bound_for CC)) (C_check_fit : Cal P w K mg base 4 "check_fit" r_check_fit) (C_right_numbers : Cal P w K mg base 1 "right_numbers" r_right_numbers) (T_CoverError : XcF P w K mg base "CoverError" CC) : Cal P w K mg base 5 "bound_of" (r_bound_of CC) := by
  obtain ⟨f, od, an, sl, oc, kV, dc, pm, cd, ct, a, l, c, k⟩ := H
  have F := fun_mk (st := st_bound_of) l c k
  have b := F.binds (ps := ["catalogue", "pattern", "cover"]) fun _ _ _ _ _ _ us hl => match us, hl with | [_, _, _], _ => rfl
  exact ⟨⟨f, _, ["catalogue", "pattern", "cover"], fn_ok (k := 4) F sc_bound_of (fun cs μ A er h => by obtain ⟨_, _, _, _, _, rfl, _⟩ := h; rfl) (fun E => dv_bound_of T E C_bound_for C_check_fit C_right_numbers T_CoverError) (h_bound_of CC), PySem.W.mg_of X G a, k, b⟩⟩
theorem cal_within (H : Has K "within" st_within)   : Cal P w K mg base 1 "within" r_keeps := by
  obtain ⟨f, od, an, sl, oc, kV, dc, pm, cd, ct, a, l, c, k⟩ := H
  have F := fun_mk (st := st_within) l c k
  have b := F.binds (ps := ["number", "bound"]) fun _ _ _ _ _ _ us hl => match us, hl with | [_, _], _ => rfl
  exact ⟨⟨f, _, ["number", "bound"], fn_ok (k := 0) F sc_within (fun cs μ A er h => by obtain ⟨_, _, _, rfl, _⟩ := h; rfl) (fun E => dv_within T E  ) h_within, PySem.W.mg_of X G a, k, b⟩⟩
theorem cal_bounds_along (H : Has K "bounds_along" st_bounds_along) (C_best_for : Cal P w K mg base 4 "best_for" r_best_for) (C_bound_for : Cal P w K mg base 3 "bound_for" (r_bound_for CC)) (C_check_fit : Cal P w K mg base 4 "check_fit" r_check_fit) (C_check_order : Cal P w K mg base 2 "check_order" (r_check_order CO))  : Cal P w K mg base 5 "bounds_along" (r_bounds_along CO) := by
  obtain ⟨f, od, an, sl, oc, kV, dc, pm, cd, ct, a, l, c, k⟩ := H
  have F := fun_mk (st := st_bounds_along) l c k
  have b := F.binds (ps := ["catalogue", "pattern", "order"]) fun _ _ _ _ _ _ us hl => match us, hl with | [_, _, _], _ => rfl
  exact ⟨⟨f, _, ["catalogue", "pattern", "order"], fn_ok (k := 4) F sc_bounds_along (fun cs μ A er h => by obtain ⟨_, _, _, _, _, rfl, _⟩ := h; rfl) (fun E => dv_bounds_along T E C_best_for C_bound_for C_check_fit C_check_order ) (h_bounds_along CC CO), PySem.W.mg_of X G a, k, b⟩⟩
theorem cal_L_begin (H : Has K "_law_begin" st_L_begin)   : Cal P w K mg base 1 "_law_begin" r_L_begin := by
  obtain ⟨f, od, an, sl, oc, kV, dc, pm, cd, ct, a, l, c, k⟩ := H
  have F := fun_mk (st := st_L_begin) l c k
  have b := F.binds (ps := ["_law_script"]) fun _ _ _ _ _ _ us hl => match us, hl with | [_], _ => rfl
  exact ⟨⟨f, _, ["_law_script"], fn_ok (k := 0) F sc_L_begin (fun cs μ A er h => by obtain ⟨_, rfl, _⟩ := h; rfl) (fun E => dv_L_begin T E  ) h_L_begin, PySem.W.mg_of X G a, k, b⟩⟩
theorem cal_L_take (H : Has K "_law_take" st_L_take)   : Cal P w K mg base 1 "_law_take" r_L_take := by
  obtain ⟨f, od, an, sl, oc, kV, dc, pm, cd, ct, a, l, c, k⟩ := H
  have F := fun_mk (st := st_L_take) l c k
  have b := F.binds (ps := ["_law_d", "_law_many"]) fun _ _ _ _ _ _ us hl => match us, hl with | [_, _], _ => rfl
  exact ⟨⟨f, _, ["_law_d", "_law_many"], fn_ok (k := 0) F sc_L_take (fun cs μ A er h => by obtain ⟨_, _, _, rfl, _⟩ := h; rfl) (fun E => dv_L_take T E  ) h_L_take, PySem.W.mg_of X G a, k, b⟩⟩
theorem cal_L_gcd (H : Has K "_law_gcd" st_L_gcd)   : Cal P w K mg base 1 "_law_gcd" r_L_gcd := by
  obtain ⟨f, od, an, sl, oc, kV, dc, pm, cd, ct, a, l, c, k⟩ := H
  have F := fun_mk (st := st_L_gcd) l c k
  have b := F.binds (ps := ["_law_a", "_law_b"]) fun _ _ _ _ _ _ us hl => match us, hl with | [_, _], _ => rfl
  exact ⟨⟨f, _, ["_law_a", "_law_b"], fn_ok (k := 0) F sc_L_gcd (fun cs μ A er h => by obtain ⟨_, _, rfl, _⟩ := h; rfl) (fun E => dv_L_gcd T E  ) h_L_gcd, PySem.W.mg_of X G a, k, b⟩⟩
theorem cal_L_f (H : Has K "_law_f" st_L_f) (C_L_gcd : Cal P w K mg base 1 "_law_gcd" r_L_gcd)  : Cal P w K mg base 2 "_law_f" r_L_f := by
  obtain ⟨f, od, an, sl, oc, kV, dc, pm, cd, ct, a, l, c, k⟩ := H
  have F := fun_mk (st := st_L_f) l c k
  have b := F.binds (ps := ["_law_a", "_law_b"]) fun _ _ _ _ _ _ us hl => match us, hl with | [_, _], _ => rfl
  exact ⟨⟨f, _, ["_law_a", "_law_b"], fn_ok (k := 1) F sc_L_f (fun cs μ A er h => by obtain ⟨_, _, rfl, _⟩ := h; rfl) (fun E => dv_L_f T E C_L_gcd ) h_L_f, PySem.W.mg_of X G a, k, b⟩⟩
theorem cal_L_plus (H : Has K "_law_plus" st_L_plus) (C_L_f : Cal P w K mg base 2 "_law_f" r_L_f)  : Cal P w K mg base 3 "_law_plus" r_L_plus := by
  obtain ⟨f, od, an, sl, oc, kV, dc, pm, cd, ct, a, l, c, k⟩ := H
  have F := fun_mk (st := st_L_plus) l c k
  have b := F.binds (ps := ["_law_a", "_law_b"]) fun _ _ _ _ _ _ us hl => match us, hl with | [_, _], _ => rfl
  exact ⟨⟨f, _, ["_law_a", "_law_b"], fn_ok (k := 2) F sc_L_plus (fun cs μ A er h => by obtain ⟨_, _, rfl, _⟩ := h; rfl) (fun E => dv_L_plus T E C_L_f ) h_L_plus, PySem.W.mg_of X G a, k, b⟩⟩
theorem cal_L_less (H : Has K "_law_less" st_L_less)   : Cal P w K mg base 1 "_law_less" r_L_less := by
  obtain ⟨f, od, an, sl, oc, kV, dc, pm, cd, ct, a, l, c, k⟩ := H
  have F := fun_mk (st := st_L_less) l c k
  have b := F.binds (ps := ["_law_a", "_law_b"]) fun _ _ _ _ _ _ us hl => match us, hl with | [_, _], _ => rfl
  exact ⟨⟨f, _, ["_law_a", "_law_b"], fn_ok (k := 0) F sc_L_less (fun cs μ A er h => by obtain ⟨_, _, rfl, _⟩ := h; rfl) (fun E => dv_L_less T E  ) h_L_less, PySem.W.mg_of X G a, k, b⟩⟩
theorem cal_L_rows (H : Has K "_law_rows" st_L_rows) (C_L_take : Cal P w K mg base 1 "_law_take" r_L_take)  : Cal P w K mg base 2 "_law_rows" r_L_rows := by
  obtain ⟨f, od, an, sl, oc, kV, dc, pm, cd, ct, a, l, c, k⟩ := H
  have F := fun_mk (st := st_L_rows) l c k
  have b := F.binds (ps := ["_law_d", "_law_columns", "_law_most", "_law_reach"]) fun _ _ _ _ _ _ us hl => match us, hl with | [_, _, _, _], _ => rfl
  exact ⟨⟨f, _, ["_law_d", "_law_columns", "_law_most", "_law_reach"], fn_ok (k := 1) F sc_L_rows (fun cs μ A er h => by obtain ⟨_, _, _, _, _, rfl, _⟩ := h; rfl) (fun E => dv_L_rows T E C_L_take ) h_L_rows, PySem.W.mg_of X G a, k, b⟩⟩
theorem cal_L_catalogue (H : Has K "_law_catalogue" st_L_catalogue) (C_L_rows : Cal P w K mg base 2 "_law_rows" r_L_rows) (C_L_take : Cal P w K mg base 1 "_law_take" r_L_take)  : Cal P w K mg base 3 "_law_catalogue" r_L_catalogue := by
  obtain ⟨f, od, an, sl, oc, kV, dc, pm, cd, ct, a, l, c, k⟩ := H
  have F := fun_mk (st := st_L_catalogue) l c k
  have b := F.binds (ps := ["_law_d", "_law_many", "_law_most", "_law_reach"]) fun _ _ _ _ _ _ us hl => match us, hl with | [_, _, _, _], _ => rfl
  exact ⟨⟨f, _, ["_law_d", "_law_many", "_law_most", "_law_reach"], fn_ok (k := 2) F sc_L_catalogue (fun cs μ A er h => by obtain ⟨_, _, rfl, _⟩ := h; rfl) (fun E => dv_L_catalogue T E C_L_rows C_L_take ) h_L_catalogue, PySem.W.mg_of X G a, k, b⟩⟩
theorem cal_L_table (H : Has K "_law_table" st_L_table)   : Cal P w K mg base 1 "_law_table" r_table_at := by
  obtain ⟨f, od, an, sl, oc, kV, dc, pm, cd, ct, a, l, c, k⟩ := H
  have F := fun_mk (st := st_L_table) l c k
  have b := F.binds (ps := ["_law_catalogue_here", "_law_name"]) fun _ _ _ _ _ _ us hl => match us, hl with | [_, _], _ => rfl
  exact ⟨⟨f, _, ["_law_catalogue_here", "_law_name"], fn_ok (k := 0) F sc_L_table (fun cs μ A er h => by obtain ⟨_, _, _, _, rfl, _⟩ := h; rfl) (fun E => dv_L_table T E  ) h_L_table, PySem.W.mg_of X G a, k, b⟩⟩
theorem cal_L_variables (H : Has K "_law_variables" st_L_variables)   : Cal P w K mg base 1 "_law_variables" r_all_variables := by
  obtain ⟨f, od, an, sl, oc, kV, dc, pm, cd, ct, a, l, c, k⟩ := H
  have F := fun_mk (st := st_L_variables) l c k
  have b := F.binds (ps := ["_law_pattern_here"]) fun _ _ _ _ _ _ us hl => match us, hl with | [_], _ => rfl
  exact ⟨⟨f, _, ["_law_pattern_here"], fn_ok (k := 0) F sc_L_variables (fun cs μ A er h => by obtain ⟨_, _, rfl, _⟩ := h; rfl) (fun E => dv_L_variables T E  ) h_L_variables, PySem.W.mg_of X G a, k, b⟩⟩
theorem cal_L_pattern (H : Has K "_law_pattern" st_L_pattern) (C_L_take : Cal P w K mg base 1 "_law_take" r_L_take) (C_L_variables : Cal P w K mg base 1 "_law_variables" r_all_variables)  : Cal P w K mg base 2 "_law_pattern" r_L_pattern := by
  obtain ⟨f, od, an, sl, oc, kV, dc, pm, cd, ct, a, l, c, k⟩ := H
  have F := fun_mk (st := st_L_pattern) l c k
  have b := F.binds (ps := ["_law_d", "_law_catalogue_here", "_law_atoms", "_law_many"]) fun _ _ _ _ _ _ us hl => match us, hl with | [_, _, _, _], _ => rfl
  exact ⟨⟨f, _, ["_law_d", "_law_catalogue_here", "_law_atoms", "_law_many"], fn_ok (k := 1) F sc_L_pattern (fun cs μ A er h => by obtain ⟨_, _, _, rfl, _⟩ := h; rfl) (fun E => dv_L_pattern T E C_L_take C_L_variables ) h_L_pattern, PySem.W.mg_of X G a, k, b⟩⟩
theorem cal_L_shuffled (H : Has K "_law_shuffled" st_L_shuffled) (C_L_take : Cal P w K mg base 1 "_law_take" r_L_take)  : Cal P w K mg base 2 "_law_shuffled" r_L_shuffled := by
  obtain ⟨f, od, an, sl, oc, kV, dc, pm, cd, ct, a, l, c, k⟩ := H
  have F := fun_mk (st := st_L_shuffled) l c k
  have b := F.binds (ps := ["_law_d", "_law_items"]) fun _ _ _ _ _ _ us hl => match us, hl with | [_, _], _ => rfl
  exact ⟨⟨f, _, ["_law_d", "_law_items"], fn_ok (k := 1) F sc_L_shuffled (fun cs μ A er h => by obtain ⟨_, _, _, rfl, _⟩ := h; rfl) (fun E => dv_L_shuffled T E C_L_take ) h_L_shuffled, PySem.W.mg_of X G a, k, b⟩⟩
theorem cal_L_sum (H : Has K "_law_sum" st_L_sum) (C_L_plus : Cal P w K mg base 3 "_law_plus" r_L_plus)  : Cal P w K mg base 4 "_law_sum" r_L_sum := by
  obtain ⟨f, od, an, sl, oc, kV, dc, pm, cd, ct, a, l, c, k⟩ := H
  have F := fun_mk (st := st_L_sum) l c k
  have b := F.binds (ps := ["_law_items"]) fun _ _ _ _ _ _ us hl => match us, hl with | [_], _ => rfl
  exact ⟨⟨f, _, ["_law_items"], fn_ok (k := 3) F sc_L_sum (fun cs μ A er h => by obtain ⟨_, _, _, rfl, _⟩ := h; rfl) (fun E => dv_L_sum T E C_L_plus ) h_L_sum, PySem.W.mg_of X G a, k, b⟩⟩
theorem cal_L_covers (H : Has K "_law_covers" st_L_covers) (C_L_less : Cal P w K mg base 1 "_law_less" r_L_less) (C_L_sum : Cal P w K mg base 4 "_law_sum" r_L_sum)  : Cal P w K mg base 5 "_law_covers" r_L_covers := by
  obtain ⟨f, od, an, sl, oc, kV, dc, pm, cd, ct, a, l, c, k⟩ := H
  have F := fun_mk (st := st_L_covers) l c k
  have b := F.binds (ps := ["_law_pattern_here", "_law_chosen", "_law_cover"]) fun _ _ _ _ _ _ us hl => match us, hl with | [_, _, _], _ => rfl
  exact ⟨⟨f, _, ["_law_pattern_here", "_law_chosen", "_law_cover"], fn_ok (k := 4) F sc_L_covers (fun cs μ A er h => by obtain ⟨_, _, _, _, _, rfl, _⟩ := h; rfl) (fun E => dv_L_covers T E C_L_less C_L_sum ) h_L_covers, PySem.W.mg_of X G a, k, b⟩⟩
theorem cal_L_packs (H : Has K "_law_packs" st_L_packs) (C_L_less : Cal P w K mg base 1 "_law_less" r_L_less) (C_L_sum : Cal P w K mg base 4 "_law_sum" r_L_sum)  : Cal P w K mg base 5 "_law_packs" r_L_packs := by
  obtain ⟨f, od, an, sl, oc, kV, dc, pm, cd, ct, a, l, c, k⟩ := H
  have F := fun_mk (st := st_L_packs) l c k
  have b := F.binds (ps := ["_law_pattern_here", "_law_chosen", "_law_packing"]) fun _ _ _ _ _ _ us hl => match us, hl with | [_, _, _], _ => rfl
  exact ⟨⟨f, _, ["_law_pattern_here", "_law_chosen", "_law_packing"], fn_ok (k := 4) F sc_L_packs (fun cs μ A er h => by obtain ⟨_, _, _, _, _, rfl, _⟩ := h; rfl) (fun E => dv_L_packs T E C_L_less C_L_sum ) h_L_packs, PySem.W.mg_of X G a, k, b⟩⟩
theorem cal_L_bound (H : Has K "_law_bound" st_L_bound) (C_L_gcd : Cal P w K mg base 1 "_law_gcd" r_L_gcd) (C_L_table : Cal P w K mg base 1 "_law_table" r_table_at)  : Cal P w K mg base 2 "_law_bound" r_L_bound := by
  obtain ⟨f, od, an, sl, oc, kV, dc, pm, cd, ct, a, l, c, k⟩ := H
  have F := fun_mk (st := st_L_bound) l c k
  have b := F.binds (ps := ["_law_catalogue_here", "_law_pattern_here", "_law_cover"]) fun _ _ _ _ _ _ us hl => match us, hl with | [_, _, _], _ => rfl
  exact ⟨⟨f, _, ["_law_catalogue_here", "_law_pattern_here", "_law_cover"], fn_ok (k := 1) F sc_L_bound (fun cs μ A er h => by obtain ⟨_, _, _, _, _, rfl, _⟩ := h; rfl) (fun E => dv_L_bound T E C_L_gcd C_L_table ) h_L_bound, PySem.W.mg_of X G a, k, b⟩⟩
theorem cal_L_keeps (H : Has K "_law_keeps" st_L_keeps)   : Cal P w K mg base 1 "_law_keeps" r_keeps := by
  obtain ⟨f, od, an, sl, oc, kV, dc, pm, cd, ct, a, l, c, k⟩ := H
  have F := fun_mk (st := st_L_keeps) l c k
  have b := F.binds (ps := ["_law_number", "_law_bound_here"]) fun _ _ _ _ _ _ us hl => match us, hl with | [_, _], _ => rfl
  exact ⟨⟨f, _, ["_law_number", "_law_bound_here"], fn_ok (k := 0) F sc_L_keeps (fun cs μ A er h => by obtain ⟨_, _, _, rfl, _⟩ := h; rfl) (fun E => dv_L_keeps T E  ) h_L_keeps, PySem.W.mg_of X G a, k, b⟩⟩
theorem cal_L_told {CH : Addr} (TT : ToldTx K mg CH CC CO) (H : Has K "_law_told" st_L_told) (C_bound_of : Cal P w K mg base 5 "bound_of" (r_bound_of CC)) (C_bounds_along : Cal P w K mg base 5 "bounds_along" (r_bounds_along CO)) : Cal P w K mg base 6 "_law_told" (rTold CC CO) := by
  obtain ⟨f, od, an, sl, oc, kV, dc, pm, cd, ct, a, l, c, k⟩ := H
  have F := fun_mk (st := st_L_told) l c k
  have b := F.binds (ps := ["_law_which", "_law_catalogue_here", "_law_pattern_here", "_law_thing"]) fun _ _ _ _ _ _ us hl => match us, hl with | [_, _, _, _], _ => rfl
  exact ⟨⟨f, _, ["_law_which", "_law_catalogue_here", "_law_pattern_here", "_law_thing"], told_ok T TT F C_bound_of C_bounds_along, PySem.W.mg_of X G a, k, b⟩⟩
end
end Jh

set_option Elab.async false
set_option linter.all false
set_option maxRecDepth 100000
set_option maxHeartbeats 4000000
namespace Jh
open PySem PySem.Spec PyProof.Rows L2
/-! ### what the top has written, and all defs from the leaves up -/
theorem zero_dq {K : Frg} {z : Addr} {zd : Option Addr} {z0 z1 : Tok} {zn : Nat} {zs : Array (Option Value)} (l : K.lookup z = some ⟨.type "tuple", zd, .seq #[.int 0 z0, .int 1 z1] zn, zs⟩) (H : Hp) : Dq K H (.ref z) (.tuple [.int 0, .int 1]) :=
  .tup (xs := [.int 0, .int 1]) (.inr ⟨_, _, _, l, rfl, rfl, by show 2 ≤ sizeLine; decide, .cons ⟨z0, rfl⟩ (.cons ⟨z1, rfl⟩ .nil)⟩) (.cons (.int 0) (.cons (.int 1) .nil))

theorem all_mk {l : PySem.W.OpenLaw} {w : World} {K : Frg} {h : Heap} {mg : Str → Option Value} {fa C CC CO CH z : Addr} {zd : Option Addr} {z0 z1 : Tok} {zn : Nat} {zs : Array (Option Value)} {t_TABLE_LIMIT t_ROW_LIMIT t_COLUMN_LIMIT t_NUMBER_LIMIT t_NAME_LIMIT t_LETTERS t_NAME_SIGNS t_ATOM_LIMIT t_VARIABLE_LIMIT t_PLACE_LIMIT t_POWER_LIMIT : Tok}
    (X : K.In h) (G : h.Ns mainGlobals mg) (hfa : mg "law" = some (.ref fa))
    (n_len : PySem.W.nsIn K mainGlobals "len" = some none)
    (n_all : PySem.W.nsIn K mainGlobals "all" = some none)
    (n_any : PySem.W.nsIn K mainGlobals "any" = some none)
    (n_abs : PySem.W.nsIn K mainGlobals "abs" = some none)
    (n_sorted : PySem.W.nsIn K mainGlobals "sorted" = some none)
    (n_min : PySem.W.nsIn K mainGlobals "min" = some none)
    (n_max : PySem.W.nsIn K mainGlobals "max" = some none)
    (n_isinstance : PySem.W.nsIn K mainGlobals "isinstance" = some none)
    (n_range : PySem.W.nsIn K mainGlobals "range" = some none)
    (n_int : PySem.W.nsIn K mainGlobals "int" = some none)
    (n_str : PySem.W.nsIn K mainGlobals "str" = some none)
    (n_tuple : PySem.W.nsIn K mainGlobals "tuple" = some none)
    (n_list : PySem.W.nsIn K mainGlobals "list" = some none)
    (n_bool : PySem.W.nsIn K mainGlobals "bool" = some none)
    (n_gcd : PySem.W.nsIn K mainGlobals "gcd" = some (some (.builtin "math.gcd")))
    (n_lcm : PySem.W.nsIn K mainGlobals "lcm" = some (some (.builtin "math.lcm")))
    (n_TABLE_LIMIT : PySem.W.nsIn K mainGlobals "TABLE_LIMIT" = some (some (.int 8 t_TABLE_LIMIT)))
    (n_ROW_LIMIT : PySem.W.nsIn K mainGlobals "ROW_LIMIT" = some (some (.int 300 t_ROW_LIMIT)))
    (n_COLUMN_LIMIT : PySem.W.nsIn K mainGlobals "COLUMN_LIMIT" = some (some (.int 4 t_COLUMN_LIMIT)))
    (n_NUMBER_LIMIT : PySem.W.nsIn K mainGlobals "NUMBER_LIMIT" = some (some (.int 999999999 t_NUMBER_LIMIT)))
    (n_NAME_LIMIT : PySem.W.nsIn K mainGlobals "NAME_LIMIT" = some (some (.int 20 t_NAME_LIMIT)))
    (n_LETTERS : PySem.W.nsIn K mainGlobals "LETTERS" = some (some (.str k_LETTERS t_LETTERS)))
    (n_NAME_SIGNS : PySem.W.nsIn K mainGlobals "NAME_SIGNS" = some (some (.str k_NAME_SIGNS t_NAME_SIGNS)))
    (n_ATOM_LIMIT : PySem.W.nsIn K mainGlobals "ATOM_LIMIT" = some (some (.int 8 t_ATOM_LIMIT)))
    (n_VARIABLE_LIMIT : PySem.W.nsIn K mainGlobals "VARIABLE_LIMIT" = some (some (.int 8 t_VARIABLE_LIMIT)))
    (n_PLACE_LIMIT : PySem.W.nsIn K mainGlobals "PLACE_LIMIT" = some (some (.int 4 t_PLACE_LIMIT)))
    (n_POWER_LIMIT : PySem.W.nsIn K mainGlobals "POWER_LIMIT" = some (some (.int 64 t_POWER_LIMIT)))
    (n_ZERO : PySem.W.nsIn K mainGlobals "ZERO" = some (some (.ref z)))
    (l_ZERO : K.lookup z = some ⟨.type "tuple", zd, .seq #[.int 0 z0, .int 1 z1] zn, zs⟩)
    (aC : PySem.W.nsIn K mainGlobals "Tableau" = some (some (.ref C)))
    (pg : PySem.W.plainGet K C Str.empty = true)
    (hd : PySem.W.hasDictIn K C = true)
    (po : PySem.W.plainOver K C = true)
    (sa : PySem.W.findIn K (.ref C) "__setattr__" = some (some (.builtin "object.__setattr__")))
    (mk : PySem.W.makesIn K C = true)
    (kc : PySem.W.keepIn K (.ref C) = true)
    (na_many : PySem.W.findIn K (.ref C) "many" = some none)
    (na_rows : PySem.W.findIn K (.ref C) "rows" = some none)
    (na_base : PySem.W.findIn K (.ref C) "base" = some none)
    (na_others : PySem.W.findIn K (.ref C) "others" = some none)
    (na_divisor : PySem.W.findIn K (.ref C) "divisor" = some none)
    (gCH : PySem.W.nsIn K mainGlobals "HallError" = some (some (.ref CH)))
    (sbCH : PySem.W.subIn K (.ref CH) (.type "BaseException") = some true)
    (tyCH : PySem.W.typeIn K (.ref CH) = some (.type "type"))
    (hdCH : PySem.W.hasDictIn K CH = true)
    (gCC : PySem.W.nsIn K mainGlobals "CoverError" = some (some (.ref CC)))
    (sbCC : PySem.W.subIn K (.ref CC) (.type "BaseException") = some true)
    (tyCC : PySem.W.typeIn K (.ref CC) = some (.type "type"))
    (hdCC : PySem.W.hasDictIn K CC = true)
    (exCC : PySem.W.excIn K CC [.type "ValueError", .type "Exception", .type "BaseException", .type "object"] "ValueError.__new__" = true)
    (keCC : PySem.W.keepIn K (.ref CC) = true)
    (gaCC : PySem.W.findIn K (.ref CC) "__getattribute__" = some (some (.builtin "BaseException.__getattribute__")))
    (ggCC : PySem.W.findIn K (.ref CC) "__getattr__" = some none)
    (clCC : PySem.W.findIn K (.ref CC) "__class__" = some (some (.builtin "object.__class__")))
    (mrCC : PySem.W.mroIn K CC (.type "object") = some true)
    (shCC : PySem.W.subIn K (.ref CC) (.ref CH) = some true)
    (gCO : PySem.W.nsIn K mainGlobals "OrderError" = some (some (.ref CO)))
    (sbCO : PySem.W.subIn K (.ref CO) (.type "BaseException") = some true)
    (tyCO : PySem.W.typeIn K (.ref CO) = some (.type "type"))
    (hdCO : PySem.W.hasDictIn K CO = true)
    (exCO : PySem.W.excIn K CO [.type "ValueError", .type "Exception", .type "BaseException", .type "object"] "ValueError.__new__" = true)
    (keCO : PySem.W.keepIn K (.ref CO) = true)
    (gaCO : PySem.W.findIn K (.ref CO) "__getattribute__" = some (some (.builtin "BaseException.__getattribute__")))
    (ggCO : PySem.W.findIn K (.ref CO) "__getattr__" = some none)
    (clCO : PySem.W.findIn K (.ref CO) "__class__" = some (some (.builtin "object.__class__")))
    (mrCO : PySem.W.mroIn K CO (.type "object") = some true)
    (shCO : PySem.W.subIn K (.ref CO) (.ref CH) = some true)
    (sp : PySem.W.specialIn K (.builtin "object.__class__") "__get__" = some (some (.builtin "getset_descriptor.__get__")))
    (tk : PySem.W.takesIn K (.builtin "object.__class__") = some true)
    (k1CCCC : PySem.W.kitOne K (.ref CC) (.ref CC) = some true)
    (k1CCCO : PySem.W.kitOne K (.ref CC) (.ref CO) = some false)
    (k1COCC : PySem.W.kitOne K (.ref CO) (.ref CC) = some false)
    (k1COCO : PySem.W.kitOne K (.ref CO) (.ref CO) = some true)
    (H_tab_init : HasM K C "__init__" "Tableau.__init__" st_tab_init)
    (H_tab_pivot : HasM K C "pivot" "Tableau.pivot" st_tab_pivot)
    (H_tab_wrong : HasM K C "wrong" "Tableau.wrong" st_tab_wrong)
    (H_tab_solve : HasM K C "solve" "Tableau.solve" st_tab_solve)
    (H_tab_fractions : HasM K C "fractions" "Tableau.fractions" st_tab_fractions)
    (H_tab_weights : HasM K C "weights" "Tableau.weights" st_tab_weights)
    (H_is_name : Has K "is_name" st_is_name)
    (H_right_row : Has K "right_row" st_right_row)
    (H_ascend : Has K "ascend" st_ascend)
    (H_right_table : Has K "right_table" st_right_table)
    (H_check_catalogue : Has K "check_catalogue" st_check_catalogue)
    (H_place_of : Has K "place_of" st_place_of)
    (H_table_at : Has K "table_at" st_table_at)
    (H_all_variables : Has K "all_variables" st_all_variables)
    (H_right_atoms : Has K "right_atoms" st_right_atoms)
    (H_check_pattern : Has K "check_pattern" st_check_pattern)
    (H_check_fit : Has K "check_fit" st_check_fit)
    (H_check_order : Has K "check_order" st_check_order)
    (H_fraction : Has K "fraction" st_fraction)
    (H_best_pair : Has K "best_pair" st_best_pair)
    (H_right_numbers : Has K "right_numbers" st_right_numbers)
    (H_best_for : Has K "best_for" st_best_for)
    (H_bound_for : Has K "bound_for" st_bound_for)
    (H_bound_of : Has K "bound_of" st_bound_of)
    (H_within : Has K "within" st_within)
    (H_bounds_along : Has K "bounds_along" st_bounds_along)
    (H_L_begin : Has K "_law_begin" st_L_begin)
    (H_L_take : Has K "_law_take" st_L_take)
    (H_L_gcd : Has K "_law_gcd" st_L_gcd)
    (H_L_f : Has K "_law_f" st_L_f)
    (H_L_plus : Has K "_law_plus" st_L_plus)
    (H_L_less : Has K "_law_less" st_L_less)
    (H_L_rows : Has K "_law_rows" st_L_rows)
    (H_L_catalogue : Has K "_law_catalogue" st_L_catalogue)
    (H_L_table : Has K "_law_table" st_L_table)
    (H_L_variables : Has K "_law_variables" st_L_variables)
    (H_L_pattern : Has K "_law_pattern" st_L_pattern)
    (H_L_shuffled : Has K "_law_shuffled" st_L_shuffled)
    (H_L_sum : Has K "_law_sum" st_L_sum)
    (H_L_covers : Has K "_law_covers" st_L_covers)
    (H_L_packs : Has K "_law_packs" st_L_packs)
    (H_L_bound : Has K "_law_bound" st_L_bound)
    (H_L_keeps : Has K "_law_keeps" st_L_keeps)
    (H_L_told : Has K "_law_told" st_L_told)
    (H_law : Has K "law" st_law) :
    ∃ fd : FuncData, (∀ (s : Shared) (v : Value), BindsTo s fd ⟨[v], []⟩ [("_law_script", v)]) ∧ ∀ base : Heap, K.In base → base.Ns mainGlobals mg → FnOk l.prog w K mg base CX0 7 fa fd ["_law_script"] (SpA K r_law) := by
  obtain ⟨f, od, an, sl, oc, kV, dc, pm, cd, ct, a, l1, c1, k1⟩ := H_law
  have e := hfa.symm.trans (PySem.W.mg_of X G a)
  cases e
  have T : Tx K mg C := { b_len := PySem.W.mg_none_of X G n_len, b_all := PySem.W.mg_none_of X G n_all, b_any := PySem.W.mg_none_of X G n_any, b_abs := PySem.W.mg_none_of X G n_abs, b_sorted := PySem.W.mg_none_of X G n_sorted, b_min := PySem.W.mg_none_of X G n_min, b_max := PySem.W.mg_none_of X G n_max, b_isinstance := PySem.W.mg_none_of X G n_isinstance, b_range := PySem.W.mg_none_of X G n_range, b_int := PySem.W.mg_none_of X G n_int, b_str := PySem.W.mg_none_of X G n_str, b_tuple := PySem.W.mg_none_of X G n_tuple, b_list := PySem.W.mg_none_of X G n_list, b_bool := PySem.W.mg_none_of X G n_bool, f_gcd := PySem.W.mg_of X G n_gcd, f_lcm := PySem.W.mg_of X G n_lcm, k_TABLE_LIMIT := ⟨t_TABLE_LIMIT, PySem.W.mg_of X G n_TABLE_LIMIT⟩, k_ROW_LIMIT := ⟨t_ROW_LIMIT, PySem.W.mg_of X G n_ROW_LIMIT⟩, k_COLUMN_LIMIT := ⟨t_COLUMN_LIMIT, PySem.W.mg_of X G n_COLUMN_LIMIT⟩, k_NUMBER_LIMIT := ⟨t_NUMBER_LIMIT, PySem.W.mg_of X G n_NUMBER_LIMIT⟩, k_NAME_LIMIT := ⟨t_NAME_LIMIT, PySem.W.mg_of X G n_NAME_LIMIT⟩, k_LETTERS := ⟨t_LETTERS, PySem.W.mg_of X G n_LETTERS⟩, k_NAME_SIGNS := ⟨t_NAME_SIGNS, PySem.W.mg_of X G n_NAME_SIGNS⟩, k_ATOM_LIMIT := ⟨t_ATOM_LIMIT, PySem.W.mg_of X G n_ATOM_LIMIT⟩, k_VARIABLE_LIMIT := ⟨t_VARIABLE_LIMIT, PySem.W.mg_of X G n_VARIABLE_LIMIT⟩, k_PLACE_LIMIT := ⟨t_PLACE_LIMIT, PySem.W.mg_of X G n_PLACE_LIMIT⟩, k_POWER_LIMIT := ⟨t_POWER_LIMIT, PySem.W.mg_of X G n_POWER_LIMIT⟩, k_ZERO := ⟨z, PySem.W.mg_of X G n_ZERO, fun H => zero_dq l_ZERO H⟩, cl := ⟨pg, hd, po, sa⟩, na_many := na_many, na_rows := na_rows, na_base := na_base, na_others := na_others, na_divisor := na_divisor }
  have mC := PySem.W.mg_of X G gCC
  have mO := PySem.W.mg_of X G gCO
  have TT : ToldTx K mg CH CC CO := ⟨PySem.W.mg_of X G gCH, mC, mO, PySem.W.exm_ref sbCH hdCH tyCH shCC, PySem.W.exm_ref sbCH hdCH tyCH shCO, ⟨gaCC, ggCC, sbCC, hdCC, clCC, sp, tk, mrCC⟩, ⟨gaCO, ggCO, sbCO, hdCO, clCO, sp, tk, mrCO⟩, k1CCCC, k1CCCO, k1COCC, k1COCO⟩
  have F := fun_mk (st := st_law) l1 c1 k1
  refine ⟨PySem.W.fnOf "law" "law" (defArgs st_law) (defBody st_law) (defScope st_law) .none kV dc pm an cd ct, fun s v => .of_eq rfl, fun base _ _ => ?_⟩
  have T_CoverError : XcF l.prog w K mg base "CoverError" CC := fun sc N k E fn => ⟨exCC, mC, keCC, sbCC, tyCC⟩
  have T_OrderError : XcF l.prog w K mg base "OrderError" CO := fun sc N k E fn => ⟨exCO, mO, keCO, sbCO, tyCO⟩
  have C_is_name := cal_is_name (P := l.prog) (w := w) (base := base) X G T H_is_name  
  have C_right_row := cal_right_row (P := l.prog) (w := w) (base := base) X G T H_right_row  
  have C_ascend := cal_ascend (P := l.prog) (w := w) (base := base) X G T H_ascend  
  have C_right_table := cal_right_table (P := l.prog) (w := w) (base := base) X G T H_right_table C_ascend C_is_name C_right_row 
  have C_check_catalogue := cal_check_catalogue (P := l.prog) (w := w) (base := base) X G T H_check_catalogue C_ascend C_right_table 
  have C_place_of := cal_place_of (P := l.prog) (w := w) (base := base) X G T H_place_of  
  have C_table_at := cal_table_at (P := l.prog) (w := w) (base := base) X G T H_table_at C_place_of 
  have C_all_variables := cal_all_variables (P := l.prog) (w := w) (base := base) X G T H_all_variables  
  have C_right_atoms := cal_right_atoms (P := l.prog) (w := w) (base := base) X G T H_right_atoms C_is_name 
  have C_check_pattern := cal_check_pattern (P := l.prog) (w := w) (base := base) X G T H_check_pattern C_all_variables C_right_atoms 
  have C_check_fit := cal_check_fit (P := l.prog) (w := w) (base := base) X G T H_check_fit C_check_catalogue C_check_pattern C_table_at 
  have C_check_order := cal_check_order (P := l.prog) (w := w) (base := base) X G T H_check_order C_all_variables T_OrderError
  have C_fraction := cal_fraction (P := l.prog) (w := w) (base := base) X G T H_fraction  
  have C_tab_init := cal_tab_init (P := l.prog) (w := w) (base := base) X G T H_tab_init mk kc aC  
  have C_tab_pivot := cal_tab_pivot (P := l.prog) (w := w) (base := base) X G T H_tab_pivot  
  have C_tab_wrong := cal_tab_wrong (P := l.prog) (w := w) (base := base) X G T H_tab_wrong  
  have C_tab_solve := cal_tab_solve (P := l.prog) (w := w) (base := base) X G T H_tab_solve C_tab_pivot C_tab_wrong 
  have C_tab_fractions := cal_tab_fractions (P := l.prog) (w := w) (base := base) X G T H_tab_fractions C_fraction 
  have C_tab_weights := cal_tab_weights (P := l.prog) (w := w) (base := base) X G T H_tab_weights C_fraction 
  have C_best_pair := cal_best_pair (P := l.prog) (w := w) (base := base) X G T H_best_pair C_tab_init C_tab_fractions C_tab_solve C_tab_weights 
  have C_right_numbers := cal_right_numbers (P := l.prog) (w := w) (base := base) X G T H_right_numbers  
  have C_best_for := cal_best_for (P := l.prog) (w := w) (base := base) X G T H_best_for C_best_pair 
  have C_bound_for := cal_bound_for (P := l.prog) (w := w) (base := base) X G T H_bound_for C_table_at T_CoverError
  have C_bound_of := cal_bound_of (P := l.prog) (w := w) (base := base) X G T H_bound_of C_bound_for C_check_fit C_right_numbers T_CoverError
  have C_within := cal_within (P := l.prog) (w := w) (base := base) X G T H_within  
  have C_bounds_along := cal_bounds_along (P := l.prog) (w := w) (base := base) X G T H_bounds_along C_best_for C_bound_for C_check_fit C_check_order 
  have C_L_begin := cal_L_begin (P := l.prog) (w := w) (base := base) X G T H_L_begin  
  have C_L_take := cal_L_take (P := l.prog) (w := w) (base := base) X G T H_L_take  
  have C_L_gcd := cal_L_gcd (P := l.prog) (w := w) (base := base) X G T H_L_gcd  
  have C_L_f := cal_L_f (P := l.prog) (w := w) (base := base) X G T H_L_f C_L_gcd 
  have C_L_plus := cal_L_plus (P := l.prog) (w := w) (base := base) X G T H_L_plus C_L_f 
  have C_L_less := cal_L_less (P := l.prog) (w := w) (base := base) X G T H_L_less  
  have C_L_rows := cal_L_rows (P := l.prog) (w := w) (base := base) X G T H_L_rows C_L_take 
  have C_L_catalogue := cal_L_catalogue (P := l.prog) (w := w) (base := base) X G T H_L_catalogue C_L_rows C_L_take 
  have C_L_table := cal_L_table (P := l.prog) (w := w) (base := base) X G T H_L_table  
  have C_L_variables := cal_L_variables (P := l.prog) (w := w) (base := base) X G T H_L_variables  
  have C_L_pattern := cal_L_pattern (P := l.prog) (w := w) (base := base) X G T H_L_pattern C_L_take C_L_variables 
  have C_L_shuffled := cal_L_shuffled (P := l.prog) (w := w) (base := base) X G T H_L_shuffled C_L_take 
  have C_L_sum := cal_L_sum (P := l.prog) (w := w) (base := base) X G T H_L_sum C_L_plus 
  have C_L_covers := cal_L_covers (P := l.prog) (w := w) (base := base) X G T H_L_covers C_L_less C_L_sum 
  have C_L_packs := cal_L_packs (P := l.prog) (w := w) (base := base) X G T H_L_packs C_L_less C_L_sum 
  have C_L_bound := cal_L_bound (P := l.prog) (w := w) (base := base) X G T H_L_bound C_L_gcd C_L_table 
  have C_L_keeps := cal_L_keeps (P := l.prog) (w := w) (base := base) X G T H_L_keeps  
  have C_L_told := cal_L_told (P := l.prog) (w := w) (base := base) X G T TT H_L_told C_bound_of C_bounds_along
  exact fn_ok0 (k := 6) F sc_law (fun cs μ A er h => by obtain ⟨_, rfl, _⟩ := h; rfl) (dv_law T (fun _ _ _ => False) C_L_begin C_L_bound C_L_catalogue C_L_covers C_L_f C_L_keeps C_L_packs C_L_pattern C_L_shuffled C_L_sum C_L_take C_L_told C_L_variables C_within ) (fun cs μ A er h => h_law cs μ A _ h)
theorem walk {l : PySem.W.OpenLaw} {q : Program} {loose : List Str} {XP : (Str → Option Value) → Heap → Prop} {YP : World → Heap → Prop} {d : DefRec} {K : Params → PySem.W.Frag} (hn : l.most = some 63) (hdf : d.params.defaults = [])
    (hY : ∀ (w : World) (h : Heap), YP w h → (K w.params).In h)
    (F : ∀ (w : World) (mg : Str → Option Value) (fa : Addr) (h : Heap), (K w.params).In h → h.Ns mainGlobals mg → mg d.name = some (.ref fa) →
      ∃ fd : FuncData, (∀ (s : Shared) (u : Value), BindsTo s fd ⟨[u], []⟩ [("_law_script", u)]) ∧ ∀ base : Heap, (K w.params).In base → base.Ns mainGlobals mg → FnOk l.prog w (K w.params) mg base CX0 7 fa fd ["_law_script"] (SpA (K w.params) r_law)) :
    PySem.W.WalkO q loose XP YP l.row.toRowW d [] (fun f vs => PySem.call f vs) :=
  L2.walk_of (n := 63) (k := 7) (x := "_law_script") (CX := fun _ => CX0) (sp := fun w => SpA (K w.params) r_law) hn (by decide) hdf ⟨rfl, by decide, by decide⟩ hY F (fun w H a ns hl _ hS => by
    refine ⟨[], H, [.s ns], [], fun c _ => c = .d (.bool true), fun _ _ => False, ⟨Ex.refl H, rfl, List.nodup_nil, fun a m => (List.not_mem_nil m).elim, fun j a o e _ => by simp at e⟩, .cons ⟨a, rfl, hS⟩ .nil, ⟨ns, rfl, by omega, fun _ => rfl⟩, fun v c μ' ad' H0' H' g w' r hc => ?_, fun D μ' ad' H0' H' g w' he => he.elim⟩
    subst hc
    cases r
    rfl) fun _ _ _ _ _ z => z
end Jh

open PySem PySem.W PyProof.Rows
set_option maxRecDepth 100000 in
set_option maxHeartbeats 0 in
theorem PySem.Challenge.cw_joinhall_k15_bounds_in_whole_numbers_holds : PySem.Challenge.rw_joinhall_k15_bounds_in_whole_numbers.Holds := by
  w_on; o_law; k_head; (case hw => w_witness2)
  k_fill
  refine Jh.walk (l := PySem.Challenge.rw_joinhall_k15_bounds_in_whole_numbers) rfl rfl (fun w h Y => PySem.W.kIn_of Y) ?F
  case F =>
    intro w mg fa h KX G hmg
    refine' Jh.all_mk KX G hmg ?j_n_len ?j_n_all ?j_n_any ?j_n_abs ?j_n_sorted ?j_n_min ?j_n_max ?j_n_isinstance ?j_n_range ?j_n_int ?j_n_str ?j_n_tuple ?j_n_list ?j_n_bool ?j_n_gcd ?j_n_lcm ?j_n_TABLE_LIMIT ?j_n_ROW_LIMIT ?j_n_COLUMN_LIMIT ?j_n_NUMBER_LIMIT ?j_n_NAME_LIMIT ?j_n_LETTERS ?j_n_NAME_SIGNS ?j_n_ATOM_LIMIT ?j_n_VARIABLE_LIMIT ?j_n_PLACE_LIMIT ?j_n_POWER_LIMIT ?j_n_ZERO ?j_l_ZERO ?j_aC ?j_pg ?j_hd ?j_po ?j_sa ?j_mk ?j_kc ?j_na_many ?j_na_rows ?j_na_base ?j_na_others ?j_na_divisor ?j_gCH ?j_sbCH ?j_tyCH ?j_hdCH ?j_gCC ?j_sbCC ?j_tyCC ?j_hdCC ?j_exCC ?j_keCC ?j_gaCC ?j_ggCC ?j_clCC ?j_mrCC ?j_shCC ?j_gCO ?j_sbCO ?j_tyCO ?j_hdCO ?j_exCO ?j_keCO ?j_gaCO ?j_ggCO ?j_clCO ?j_mrCO ?j_shCO ?j_sp ?j_tk ?j_k1CCCC ?j_k1CCCO ?j_k1COCC ?j_k1COCO ?j_H_tab_init ?j_H_tab_pivot ?j_H_tab_wrong ?j_H_tab_solve ?j_H_tab_fractions ?j_H_tab_weights ?j_H_is_name ?j_H_right_row ?j_H_ascend ?j_H_right_table ?j_H_check_catalogue ?j_H_place_of ?j_H_table_at ?j_H_all_variables ?j_H_right_atoms ?j_H_check_pattern ?j_H_check_fit ?j_H_check_order ?j_H_fraction ?j_H_best_pair ?j_H_right_numbers ?j_H_best_for ?j_H_bound_for ?j_H_bound_of ?j_H_within ?j_H_bounds_along ?j_H_L_begin ?j_H_L_take ?j_H_L_gcd ?j_H_L_f ?j_H_L_plus ?j_H_L_less ?j_H_L_rows ?j_H_L_catalogue ?j_H_L_table ?j_H_L_variables ?j_H_L_pattern ?j_H_L_shuffled ?j_H_L_sum ?j_H_L_covers ?j_H_L_packs ?j_H_L_bound ?j_H_L_keeps ?j_H_L_told ?j_H_law
    (case j_n_len => k_is)
    (case j_n_all => k_is)
    (case j_n_any => k_is)
    (case j_n_abs => k_is)
    (case j_n_sorted => k_is)
    (case j_n_min => k_is)
    (case j_n_max => k_is)
    (case j_n_isinstance => k_is)
    (case j_n_range => k_is)
    (case j_n_int => k_is)
    (case j_n_str => k_is)
    (case j_n_tuple => k_is)
    (case j_n_list => k_is)
    (case j_n_bool => k_is)
    (case j_n_gcd => k_is)
    (case j_n_lcm => k_is)
    (case j_n_TABLE_LIMIT => k_is)
    (case j_n_ROW_LIMIT => k_is)
    (case j_n_COLUMN_LIMIT => k_is)
    (case j_n_NUMBER_LIMIT => k_is)
    (case j_n_NAME_LIMIT => k_is)
    (case j_n_LETTERS => k_is)
    (case j_n_NAME_SIGNS => k_is)
    (case j_n_ATOM_LIMIT => k_is)
    (case j_n_VARIABLE_LIMIT => k_is)
    (case j_n_PLACE_LIMIT => k_is)
    (case j_n_POWER_LIMIT => k_is)
    (case j_n_ZERO => k_is)
    (case j_l_ZERO => k_is)
    (case j_aC => k_is)
    (case j_pg => k_is)
    (case j_hd => k_is)
    (case j_po => k_is)
    (case j_sa => k_is)
    (case j_mk => k_is)
    (case j_kc => k_is)
    (case j_na_many => k_is)
    (case j_na_rows => k_is)
    (case j_na_base => k_is)
    (case j_na_others => k_is)
    (case j_na_divisor => k_is)
    (case j_gCH => k_is)
    (case j_sbCH => k_is)
    (case j_tyCH => k_is)
    (case j_hdCH => k_is)
    (case j_gCC => k_is)
    (case j_sbCC => k_is)
    (case j_tyCC => k_is)
    (case j_hdCC => k_is)
    (case j_exCC => k_exc)
    (case j_keCC => k_is)
    (case j_gaCC => k_is)
    (case j_ggCC => k_is)
    (case j_clCC => k_is)
    (case j_mrCC => k_is)
    (case j_shCC => first | k_is | rfl)
    (case j_gCO => k_is)
    (case j_sbCO => k_is)
    (case j_tyCO => k_is)
    (case j_hdCO => k_is)
    (case j_exCO => k_exc)
    (case j_keCO => k_is)
    (case j_gaCO => k_is)
    (case j_ggCO => k_is)
    (case j_clCO => k_is)
    (case j_mrCO => k_is)
    (case j_shCO => first | k_is | rfl)
    (case j_sp => k_is)
    (case j_tk => k_is)
    (case j_k1CCCC => first | k_is | rfl)
    (case j_k1CCCO => first | k_is | rfl)
    (case j_k1COCC => first | k_is | rfl)
    (case j_k1COCO => first | k_is | rfl)
    (case j_H_tab_init => refine' Jh.hasM_mk ?a ?i ?l ?c ?k; (case a => k_is); (case i => k_is); (case l => k_is); (case c => k_is); (case k => k_is))
    (case j_H_tab_pivot => refine' Jh.hasM_mk ?a ?i ?l ?c ?k; (case a => k_is); (case i => k_is); (case l => k_is); (case c => k_is); (case k => k_is))
    (case j_H_tab_wrong => refine' Jh.hasM_mk ?a ?i ?l ?c ?k; (case a => k_is); (case i => k_is); (case l => k_is); (case c => k_is); (case k => k_is))
    (case j_H_tab_solve => refine' Jh.hasM_mk ?a ?i ?l ?c ?k; (case a => k_is); (case i => k_is); (case l => k_is); (case c => k_is); (case k => k_is))
    (case j_H_tab_fractions => refine' Jh.hasM_mk ?a ?i ?l ?c ?k; (case a => k_is); (case i => k_is); (case l => k_is); (case c => k_is); (case k => k_is))
    (case j_H_tab_weights => refine' Jh.hasM_mk ?a ?i ?l ?c ?k; (case a => k_is); (case i => k_is); (case l => k_is); (case c => k_is); (case k => k_is))
    (case j_H_is_name => refine' Jh.has_mk ?a ?l ?c ?k; (case a => k_is); (case l => k_is); (case c => k_is); (case k => k_is))
    (case j_H_right_row => refine' Jh.has_mk ?a ?l ?c ?k; (case a => k_is); (case l => k_is); (case c => k_is); (case k => k_is))
    (case j_H_ascend => refine' Jh.has_mk ?a ?l ?c ?k; (case a => k_is); (case l => k_is); (case c => k_is); (case k => k_is))
    (case j_H_right_table => refine' Jh.has_mk ?a ?l ?c ?k; (case a => k_is); (case l => k_is); (case c => k_is); (case k => k_is))
    (case j_H_check_catalogue => refine' Jh.has_mk ?a ?l ?c ?k; (case a => k_is); (case l => k_is); (case c => k_is); (case k => k_is))
    (case j_H_place_of => refine' Jh.has_mk ?a ?l ?c ?k; (case a => k_is); (case l => k_is); (case c => k_is); (case k => k_is))
    (case j_H_table_at => refine' Jh.has_mk ?a ?l ?c ?k; (case a => k_is); (case l => k_is); (case c => k_is); (case k => k_is))
    (case j_H_all_variables => refine' Jh.has_mk ?a ?l ?c ?k; (case a => k_is); (case l => k_is); (case c => k_is); (case k => k_is))
    (case j_H_right_atoms => refine' Jh.has_mk ?a ?l ?c ?k; (case a => k_is); (case l => k_is); (case c => k_is); (case k => k_is))
    (case j_H_check_pattern => refine' Jh.has_mk ?a ?l ?c ?k; (case a => k_is); (case l => k_is); (case c => k_is); (case k => k_is))
    (case j_H_check_fit => refine' Jh.has_mk ?a ?l ?c ?k; (case a => k_is); (case l => k_is); (case c => k_is); (case k => k_is))
    (case j_H_check_order => refine' Jh.has_mk ?a ?l ?c ?k; (case a => k_is); (case l => k_is); (case c => k_is); (case k => k_is))
    (case j_H_fraction => refine' Jh.has_mk ?a ?l ?c ?k; (case a => k_is); (case l => k_is); (case c => k_is); (case k => k_is))
    (case j_H_best_pair => refine' Jh.has_mk ?a ?l ?c ?k; (case a => k_is); (case l => k_is); (case c => k_is); (case k => k_is))
    (case j_H_right_numbers => refine' Jh.has_mk ?a ?l ?c ?k; (case a => k_is); (case l => k_is); (case c => k_is); (case k => k_is))
    (case j_H_best_for => refine' Jh.has_mk ?a ?l ?c ?k; (case a => k_is); (case l => k_is); (case c => k_is); (case k => k_is))
    (case j_H_bound_for => refine' Jh.has_mk ?a ?l ?c ?k; (case a => k_is); (case l => k_is); (case c => k_is); (case k => k_is))
    (case j_H_bound_of => refine' Jh.has_mk ?a ?l ?c ?k; (case a => k_is); (case l => k_is); (case c => k_is); (case k => k_is))
    (case j_H_within => refine' Jh.has_mk ?a ?l ?c ?k; (case a => k_is); (case l => k_is); (case c => k_is); (case k => k_is))
    (case j_H_bounds_along => refine' Jh.has_mk ?a ?l ?c ?k; (case a => k_is); (case l => k_is); (case c => k_is); (case k => k_is))
    (case j_H_L_begin => refine' Jh.has_mk ?a ?l ?c ?k; (case a => k_is); (case l => k_is); (case c => k_is); (case k => k_is))
    (case j_H_L_take => refine' Jh.has_mk ?a ?l ?c ?k; (case a => k_is); (case l => k_is); (case c => k_is); (case k => k_is))
    (case j_H_L_gcd => refine' Jh.has_mk ?a ?l ?c ?k; (case a => k_is); (case l => k_is); (case c => k_is); (case k => k_is))
    (case j_H_L_f => refine' Jh.has_mk ?a ?l ?c ?k; (case a => k_is); (case l => k_is); (case c => k_is); (case k => k_is))
    (case j_H_L_plus => refine' Jh.has_mk ?a ?l ?c ?k; (case a => k_is); (case l => k_is); (case c => k_is); (case k => k_is))
    (case j_H_L_less => refine' Jh.has_mk ?a ?l ?c ?k; (case a => k_is); (case l => k_is); (case c => k_is); (case k => k_is))
    (case j_H_L_rows => refine' Jh.has_mk ?a ?l ?c ?k; (case a => k_is); (case l => k_is); (case c => k_is); (case k => k_is))
    (case j_H_L_catalogue => refine' Jh.has_mk ?a ?l ?c ?k; (case a => k_is); (case l => k_is); (case c => k_is); (case k => k_is))
    (case j_H_L_table => refine' Jh.has_mk ?a ?l ?c ?k; (case a => k_is); (case l => k_is); (case c => k_is); (case k => k_is))
    (case j_H_L_variables => refine' Jh.has_mk ?a ?l ?c ?k; (case a => k_is); (case l => k_is); (case c => k_is); (case k => k_is))
    (case j_H_L_pattern => refine' Jh.has_mk ?a ?l ?c ?k; (case a => k_is); (case l => k_is); (case c => k_is); (case k => k_is))
    (case j_H_L_shuffled => refine' Jh.has_mk ?a ?l ?c ?k; (case a => k_is); (case l => k_is); (case c => k_is); (case k => k_is))
    (case j_H_L_sum => refine' Jh.has_mk ?a ?l ?c ?k; (case a => k_is); (case l => k_is); (case c => k_is); (case k => k_is))
    (case j_H_L_covers => refine' Jh.has_mk ?a ?l ?c ?k; (case a => k_is); (case l => k_is); (case c => k_is); (case k => k_is))
    (case j_H_L_packs => refine' Jh.has_mk ?a ?l ?c ?k; (case a => k_is); (case l => k_is); (case c => k_is); (case k => k_is))
    (case j_H_L_bound => refine' Jh.has_mk ?a ?l ?c ?k; (case a => k_is); (case l => k_is); (case c => k_is); (case k => k_is))
    (case j_H_L_keeps => refine' Jh.has_mk ?a ?l ?c ?k; (case a => k_is); (case l => k_is); (case c => k_is); (case k => k_is))
    (case j_H_L_told => refine' Jh.has_mk ?a ?l ?c ?k; (case a => k_is); (case l => k_is); (case c => k_is); (case k => k_is))
    (case j_H_law => refine' Jh.has_mk ?a ?l ?c ?k; (case a => k_is); (case l => k_is); (case c => k_is); (case k => k_is))
#print axioms PySem.Challenge.cw_joinhall_k15_bounds_in_whole_numbers_holds
