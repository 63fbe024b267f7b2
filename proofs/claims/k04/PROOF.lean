import PyProof.Rows.All
import HandS.ForMost
import HandS.Wide
import HandS.TupAny
import HandS.Zip
import HandS.Style
import HandS.Deep
import HandS.IsInst
import PySem.Challenge.RW_justthepart_k04_whole_cells
set_option Elab.async false
set_option linter.all false
set_option maxRecDepth 100000
set_option maxHeartbeats 4000000
/-! DL: what a def computes, as a plain function of plain data; its derivation over the hand layer. -/
namespace DL
open PySem PySem.Spec PyProof.Rows L2

/-! ### data, cells, locals -/
abbrev Dat := PyData
/-- a reference to the n-th cell (a list that several defs share and change) -/
abbrev cel (n : Nat) : Dat := .dict [(.int n, .none)]
/-- the script: a list that is read alone -/
abbrev seal_ (ns : List Int) : Dat := .dict [(.none, .list (ns.map PyData.int))]
inductive Cel where
  | ls (ds : List Dat)
abbrev Sto := List Cel
/-- a local: unassigned, plain data, a list of its own that it may change -/
inductive Slt where
  | un | fz (d : Dat) | ow (ds : List Dat)
abbrev Lcs := List Slt
inductive Res (α : Type) where
  | bad | ok (a : α) (s : Sto)
inductive Flo where
  | bad | nx (e : Lcs) (s : Sto) | rt (d : Dat) (s : Sto) | bk (e : Lcs) (s : Sto) | ct (e : Lcs) (s : Sto)

/-! ### how data lie in the heap -/
mutual
def Rp (K : PySem.W.Frag) (as : List Addr) (F : Hp) : Dat → V → Prop
  | .none, v => v = .non
  | .bool b, v => v = .bl b
  | .int i, v => v = .int i
  | .str x, v => v = .str x
  | .list ds, v => ∃ a xs, v = .ref a ∧ F a = some (.lst xs) ∧ RpL K as F ds xs
  | .tuple ds, v => ∃ a xs, v = .ref a ∧ SqT K F a xs ∧ RpL K as F ds xs
  | .dict kvs, v => match kvs with
    | [(.int n, .none)] => ∃ a, v = .ref a ∧ as[n.toNat]? = some a
    | [(.none, .list ds)] => ∃ (a : Addr) (ns : List Int), v = .ref a ∧ ds = ns.map PyData.int ∧ SqL K F a (ns.map V.int)
    | _ => False
def RpL (K : PySem.W.Frag) (as : List Addr) (F : Hp) : List Dat → List V → Prop
  | [], [] => True
  | d :: ds, v :: vs => Rp K as F d v ∧ RpL K as F ds vs
  | [], _ :: _ => False
  | _ :: _, [] => False
end

theorem sqL_mono {K : PySem.W.Frag} {F F' : Hp} {a : Addr} {xs : List V} (h : Same F F') (q : SqL K F a xs) : SqL K F' a xs := h.seq q
theorem sqT_mono {K : PySem.W.Frag} {F F' : Hp} {a : Addr} {xs : List V} (e : Same F F') (h : SqT K F a xs) : SqT K F' a xs := by
  rcases h with (h | ⟨o, h⟩) | h
  · exact .inl (.inl (e _ _ h))
  · exact .inl (.inr ⟨o, e _ _ h⟩)
  · exact .inr h
/-- one list begins with the other -/
def Beg (as as' : List Addr) : Prop := ∃ more, as' = as ++ more
theorem Beg.refl (as : List Addr) : Beg as as := ⟨[], by simp⟩
theorem Beg.trans {a b c : List Addr} (h : Beg a b) (h' : Beg b c) : Beg a c := by
  obtain ⟨x, rfl⟩ := h
  obtain ⟨y, rfl⟩ := h'
  exact ⟨x ++ y, by simp⟩
theorem Beg.get {as as' : List Addr} (h : Beg as as') {n : Nat} {a : Addr} (e : as[n]? = some a) : as'[n]? = some a := by
  obtain ⟨x, rfl⟩ := h
  rw [List.getElem?_append_left (List.getElem?_eq_some_iff.mp e).1]
  exact e
theorem Beg.mem {as as' : List Addr} (h : Beg as as') {a : Addr} (e : a ∈ as) : a ∈ as' := by
  obtain ⟨x, rfl⟩ := h
  exact List.mem_append_left _ e
mutual
theorem Rp.mono {K : PySem.W.Frag} {as as' : List Addr} {F F' : Hp} (hb : Beg as as') (hs : Same F F') : ∀ (d : Dat) (v : V), Rp K as F d v → Rp K as' F' d v
  | .none, v, h => by simpa [Rp] using h
  | .bool b, v, h => by simpa [Rp] using h
  | .int i, v, h => by simpa [Rp] using h
  | .str x, v, h => by simpa [Rp] using h
  | .list ds, v, h => by
    simp only [Rp] at h ⊢
    obtain ⟨a, xs, e, q, r⟩ := h
    exact ⟨a, xs, e, hs _ _ q, RpL.mono hb hs ds xs r⟩
  | .tuple ds, v, h => by
    simp only [Rp] at h ⊢
    obtain ⟨a, xs, e, q, r⟩ := h
    exact ⟨a, xs, e, sqT_mono hs q, RpL.mono hb hs ds xs r⟩
  | .dict kvs, v, h => by
    unfold Rp at h ⊢
    split at h
    · obtain ⟨a, e, q⟩ := h
      exact ⟨a, e, hb.get q⟩
    · obtain ⟨a, ns, e, e2, q⟩ := h
      exact ⟨a, ns, e, e2, sqL_mono hs q⟩
    · exact h.elim
theorem RpL.mono {K : PySem.W.Frag} {as as' : List Addr} {F F' : Hp} (hb : Beg as as') (hs : Same F F') : ∀ (ds : List Dat) (vs : List V), RpL K as F ds vs → RpL K as' F' ds vs
  | [], [], h => by simp [RpL]
  | d :: ds, v :: vs, h => by
    simp only [RpL] at h ⊢
    exact ⟨Rp.mono hb hs d v h.1, RpL.mono hb hs ds vs h.2⟩
  | [], _ :: _, h => by simp [RpL] at h
  | _ :: _, [], h => by simp [RpL] at h
end
section
variable {K : PySem.W.Frag} {as : List Addr} {F : Hp}
theorem RpL.length : ∀ {ds : List Dat} {vs : List V}, RpL K as F ds vs → vs.length = ds.length
  | [], [], _ => rfl
  | d :: ds, v :: vs, h => by
    simp only [RpL] at h
    simp [RpL.length h.2]
  | [], _ :: _, h => by simp [RpL] at h
  | _ :: _, [], h => by simp [RpL] at h
theorem RpL.get : ∀ {ds : List Dat} {vs : List V} {i : Nat} {v : V}, RpL K as F ds vs → vs[i]? = some v → ∃ d, ds[i]? = some d ∧ Rp K as F d v
  | [], [], i, v, _, e => by simp at e
  | d :: ds, v :: vs, 0, u, h, e => by
    simp only [RpL] at h
    simp at e; subst e
    exact ⟨d, rfl, h.1⟩
  | d :: ds, v :: vs, i + 1, u, h, e => by
    simp only [RpL] at h
    obtain ⟨x, hx, r⟩ := RpL.get (i := i) h.2 (by simpa using e)
    exact ⟨x, by simpa using hx, r⟩
  | [], _ :: _, _, _, h, _ => by simp [RpL] at h
  | _ :: _, [], _, _, h, _ => by simp [RpL] at h
theorem RpL.get' {ds : List Dat} {vs : List V} {i : Nat} {d : Dat} (h : RpL K as F ds vs) (e : ds[i]? = some d) : ∃ v, vs[i]? = some v ∧ Rp K as F d v := by
  have hl := h.length
  have hi : i < vs.length := by rw [hl]; exact (List.getElem?_eq_some_iff.mp e).1
  obtain ⟨x, hx, r⟩ := h.get (List.getElem?_eq_getElem hi)
  rw [e] at hx; cases hx
  exact ⟨_, List.getElem?_eq_getElem hi, r⟩
theorem RpL.append : ∀ {ds es : List Dat} {vs ws : List V}, RpL K as F ds vs → RpL K as F es ws → RpL K as F (ds ++ es) (vs ++ ws)
  | [], _, [], _, _, h => h
  | d :: ds, es, v :: vs, ws, h, h' => by
    simp only [RpL, List.cons_append] at h ⊢
    exact ⟨h.1, RpL.append h.2 h'⟩
  | [], _, _ :: _, _, h, _ => by simp [RpL] at h
  | _ :: _, _, [], _, h, _ => by simp [RpL] at h
theorem RpL.one {d : Dat} {v : V} (h : Rp K as F d v) : RpL K as F [d] [v] := by simp only [RpL]; exact ⟨h, trivial⟩
theorem RpL.nil : RpL K as F [] [] := by simp [RpL]
theorem RpL.cons {d : Dat} {v : V} {ds : List Dat} {vs : List V} (h : Rp K as F d v) (t : RpL K as F ds vs) : RpL K as F (d :: ds) (v :: vs) := by simp only [RpL]; exact ⟨h, t⟩
theorem RpL.take : ∀ {ds : List Dat} {vs : List V} (n : Nat), RpL K as F ds vs → RpL K as F (ds.take n) (vs.take n)
  | _, _, 0, _ => by simp [RpL]
  | [], [], n + 1, _ => by simp [RpL]
  | d :: ds, v :: vs, n + 1, h => by
    simp only [RpL, List.take_succ_cons] at h ⊢
    exact ⟨h.1, RpL.take n h.2⟩
  | [], _ :: _, _, h => by simp [RpL] at h
  | _ :: _, [], _, h => by simp [RpL] at h
theorem RpL.drop : ∀ {ds : List Dat} {vs : List V} (n : Nat), RpL K as F ds vs → RpL K as F (ds.drop n) (vs.drop n)
  | _, _, 0, h => h
  | [], [], n + 1, _ => by simp [RpL]
  | d :: ds, v :: vs, n + 1, h => by
    simp only [RpL, List.drop_succ_cons] at h ⊢
    exact RpL.drop n h.2
  | [], _ :: _, _, h => by simp [RpL] at h
  | _ :: _, [], _, h => by simp [RpL] at h
theorem RpL.set : ∀ {ds : List Dat} {vs : List V} (i : Nat) {d : Dat} {v : V}, RpL K as F ds vs → Rp K as F d v → RpL K as F (ds.set i d) (vs.set i v)
  | [], [], _, _, _, _, _ => by simp [RpL]
  | d :: ds, v :: vs, 0, _, _, h, r => by
    simp only [RpL, List.set_cons_zero] at h ⊢
    exact ⟨r, h.2⟩
  | d :: ds, v :: vs, i + 1, _, _, h, r => by
    simp only [RpL, List.set_cons_succ] at h ⊢
    exact ⟨h.1, RpL.set i h.2 r⟩
  | [], _ :: _, _, _, _, h, _ => by simp [RpL] at h
  | _ :: _, [], _, _, _, h, _ => by simp [RpL] at h
end

/-! ### the world: the cells' places, the places that are someone's own -/
structure Wd where
  as : List Addr
  ow : Addr → Prop
open Classical in
/-- what stands still -/
noncomputable def Fz (w : Wd) (H : Hp) : Hp := fun a => if a ∈ w.as ∨ w.ow a then none else H a
theorem Fz_get {w : Wd} {H : Hp} {a : Addr} {o : HO} (h : Fz w H a = some o) : H a = some o ∧ a ∉ w.as ∧ ¬ w.ow a := by
  unfold Fz at h
  split at h
  · cases h
  · rename_i n
    exact ⟨h, fun q => n (.inl q), fun q => n (.inr q)⟩
theorem Fz_of {w : Wd} {H : Hp} {a : Addr} {o : HO} (h : H a = some o) (h1 : a ∉ w.as) (h2 : ¬ w.ow a) : Fz w H a = some o := by
  unfold Fz
  rw [if_neg (by rintro (q | q); exact h1 q; exact h2 q)]
  exact h
theorem Fz_sub {w : Wd} {H : Hp} : Same (Fz w H) H := fun a o h => (Fz_get h).1
structure Gx where
  K : PySem.W.Frag
  H0 : Hp
  as0 : List Addr
  O0 : Addr → Prop

structure IE (G : Gx) (w : Wd) (e : Lcs) (s : Sto) (σ : L2.St) (H : Hp) : Prop where
  len : e.length = σ.length
  slot : ∀ (i : Nat) d, e[i]? = some (.fz d) → ∃ v, σ[i]? = some (some v) ∧ Rp G.K w.as (Fz w H) d v
  own : ∀ (i : Nat) ds, e[i]? = some (.ow ds) → ∃ p vs, σ[i]? = some (some (.ref p)) ∧ w.ow p ∧ G.H0 p = none ∧ ¬ G.O0 p ∧ H p = some (.lst vs) ∧ RpL G.K w.as (Fz w H) ds vs
  inj : ∀ (i j : Nat) p ds es, e[i]? = some (.ow ds) → e[j]? = some (.ow es) → σ[i]? = some (some (.ref p)) → σ[j]? = some (some (.ref p)) → i = j
  slen : w.as.length = s.length
  cells : ∀ (n : Nat) ds, s[n]? = some (.ls ds) → ∃ a vs, w.as[n]? = some a ∧ H a = some (.lst vs) ∧ RpL G.K w.as (Fz w H) ds vs
  nd : w.as.Nodup
  dis : ∀ a ∈ w.as, ¬ w.ow a
  beg : Beg G.as0 w.as
  o0 : ∀ a, G.O0 a → w.ow a
  there : ∀ a, w.ow a → H a ≠ none
  keep : ∀ a o, G.H0 a = some o → a ∉ G.as0 → H a = some o
  cfresh : ∀ a, a ∈ w.as → a ∉ G.as0 → G.H0 a = none

/-- what an expression leaves as it was -/
structure EExt (w : Wd) (H : Hp) (w' : Wd) (H' : Hp) : Prop where
  beg : Beg w.as w'.as
  same : Same (Fz w H) (Fz w' H')
  ow : w'.ow = w.ow
  own : ∀ a, w.ow a → H' a = H a
/-- what a statement leaves as it was -/
structure FExt (w : Wd) (H : Hp) (w' : Wd) (H' : Hp) : Prop where
  beg : Beg w.as w'.as
  same : Same (Fz w H) (Fz w' H')
section
variable {w w1 w2 : Wd} {H H1 H2 : Hp}
theorem EExt.refl : EExt w H w H := ⟨.refl _, .refl _, rfl, fun _ _ => rfl⟩
theorem EExt.trans (a : EExt w H w1 H1) (b : EExt w1 H1 w2 H2) : EExt w H w2 H2 :=
  ⟨a.beg.trans b.beg, a.same.trans b.same, b.ow.trans a.ow, fun x hx => (b.own x (by rw [a.ow]; exact hx)).trans (a.own x hx)⟩
theorem EExt.f (a : EExt w H w1 H1) : FExt w H w1 H1 := ⟨a.beg, a.same⟩
theorem FExt.refl : FExt w H w H := ⟨.refl _, .refl _⟩
theorem FExt.trans (a : FExt w H w1 H1) (b : FExt w1 H1 w2 H2) : FExt w H w2 H2 := ⟨a.beg.trans b.beg, a.same.trans b.same⟩
theorem FExt.rp {K : PySem.W.Frag} (x : FExt w H w1 H1) {d : Dat} {v : V} (h : Rp K w.as (Fz w H) d v) : Rp K w1.as (Fz w1 H1) d v := Rp.mono x.beg x.same d v h
theorem FExt.rpl {K : PySem.W.Frag} (x : FExt w H w1 H1) {d : List Dat} {v : List V} (h : RpL K w.as (Fz w H) d v) : RpL K w1.as (Fz w1 H1) d v := RpL.mono x.beg x.same d v h
theorem EExt.rp {K : PySem.W.Frag} (x : EExt w H w1 H1) {d : Dat} {v : V} (h : Rp K w.as (Fz w H) d v) : Rp K w1.as (Fz w1 H1) d v := x.f.rp h
theorem EExt.rpl {K : PySem.W.Frag} (x : EExt w H w1 H1) {d : List Dat} {v : List V} (h : RpL K w.as (Fz w H) d v) : RpL K w1.as (Fz w1 H1) d v := x.f.rpl h
end
section
variable {G : Gx} {w : Wd} {e : Lcs} {s : Sto} {σ : L2.St} {H : Hp}
theorem IE.cellThere (I : IE G w e s σ H) {a : Addr} (ha : a ∈ w.as) : H a ≠ none := by
  obtain ⟨n, hn, e1⟩ := List.getElem_of_mem ha
  have hs : n < s.length := by rw [← I.slen]; exact hn
  cases hc : s[n]'hs with
  | ls ds =>
    obtain ⟨b, vs, h1, h2, _⟩ := I.cells n ds (by rw [List.getElem?_eq_getElem hs, hc])
    rw [List.getElem?_eq_getElem hn, e1] at h1
    cases h1
    rw [h2]; simp
/-- a new object -/
theorem IE.newF (I : IE G w e s σ H) {p : Addr} {o : HO} (hp : H p = none) : Fz w (upd H p o) p = some o :=
  Fz_of upd_same (fun q => I.cellThere q hp) (fun q => I.there p q hp)
theorem IE.sameF (I : IE G w e s σ H) {p : Addr} {o : HO} (hp : H p = none) : Same (Fz w H) (Fz w (upd H p o)) := fun a u h => by
  obtain ⟨h1, h2, h3⟩ := Fz_get h
  exact Fz_of (by rw [upd_ne (ne_of_none h1 hp)]; exact h1) h2 h3
theorem IE.new (I : IE G w e s σ H) {p : Addr} {o : HO} (hp : H p = none) : IE G w e s σ (upd H p o) := by
  have sm := I.sameF (o := o) hp
  have hx : ∀ {a : Addr} {u : HO}, H a = some u → upd H p o a = some u := fun {a u} h => by rw [upd_ne (ne_of_none h hp)]; exact h
  refine ⟨I.len, fun i d h => ?_, fun i ds h => ?_, I.inj, I.slen, fun n ds h => ?_, I.nd, I.dis, I.beg, I.o0, fun a h => ?_, fun a u h h' => hx (I.keep a u h h'), I.cfresh⟩
  · obtain ⟨v, h1, h2⟩ := I.slot i d h
    exact ⟨v, h1, Rp.mono (.refl _) sm _ _ h2⟩
  · obtain ⟨q, vs, h1, h2, h3, h4, h5, h6⟩ := I.own i ds h
    exact ⟨q, vs, h1, h2, h3, h4, hx h5, RpL.mono (.refl _) sm _ _ h6⟩
  · obtain ⟨a, vs, h1, h2, h3⟩ := I.cells n ds h
    exact ⟨a, vs, h1, hx h2, RpL.mono (.refl _) sm _ _ h3⟩
  · have q := I.there a h
    cases z : H a with
    | none => exact absurd z q
    | some u => rw [hx z]; simp
theorem IE.newE (I : IE G w e s σ H) {p : Addr} {o : HO} (hp : H p = none) : EExt w H w (upd H p o) :=
  ⟨.refl _, I.sameF hp, rfl, fun a ha => upd_ne fun z => by subst z; exact I.there a ha hp⟩
end
end DL

namespace DL
open PySem PySem.Spec PyProof.Rows L2

/-! ### the functions that stand for pieces of a def -/
abbrev FE := Lcs → Sto → Res Dat
abbrev FT := Lcs → Sto → Res Bool
abbrev FA := Lcs → Sto → Res (List Dat)
abbrev FS := Lcs → Sto → Flo
abbrev FG := Dat → Lcs → Sto → Res Lcs

def Res.holds {α : Type} (r : Res α) (P : α → Sto → Prop) : Prop := match r with
  | .bad => False
  | .ok a s => P a s
def Res.bind {α β : Type} (r : Res α) (f : α → Sto → Res β) : Res β := match r with
  | .bad => .bad
  | .ok a s => f a s
@[simp] theorem bind_ok {α β : Type} (a : α) (s : Sto) (f : α → Sto → Res β) : (Res.ok a s).bind f = f a s := rfl
@[simp] theorem bind_bad {α β : Type} (f : α → Sto → Res β) : (Res.bad : Res α).bind f = .bad := rfl
theorem holds_bind {α β : Type} {r : Res α} {f : α → Sto → Res β} {P : β → Sto → Prop} (h : (r.bind f).holds P) : r.holds fun a s => (f a s).holds P := by
  cases r with
  | bad => exact h
  | ok a s => exact h
theorem holds_imp {α : Type} {r : Res α} {P P' : α → Sto → Prop} (h : r.holds P) (k : ∀ a s, P a s → P' a s) : r.holds P' := by
  cases r with
  | bad => exact h
  | ok a s => exact k _ _ h

/-- wanted behind an expression -/
def kE (G : Gx) (w : Wd) (e : Lcs) (σ : L2.St) (H : Hp) (Q : VK) : Dat → Sto → Prop := fun d s' => ∀ w' v H', IE G w' e s' σ H' → EExt w H w' H' → Rp G.K w'.as (Fz w' H') d v → Q v H'
def kT (G : Gx) (w : Wd) (e : Lcs) (σ : L2.St) (H : Hp) (Q : Bool → Hp → Prop) : Bool → Sto → Prop := fun b s' => ∀ w' H', IE G w' e s' σ H' → EExt w H w' H' → Q b H'
def kA (G : Gx) (w : Wd) (e : Lcs) (σ : L2.St) (H : Hp) (Q : List V → Hp → Prop) : List Dat → Sto → Prop := fun ds s' => ∀ w' vs H', IE G w' e s' σ H' → EExt w H w' H' → RpL G.K w'.as (Fz w' H') ds vs → Q vs H'
def tE (G : Gx) (F : FE) : TE := fun σ H Q => ∃ w e s, IE G w e s σ H ∧ (F e s).holds (kE G w e σ H Q)
def tT (G : Gx) (F : FT) : TT := fun σ H Q => ∃ w e s, IE G w e s σ H ∧ (F e s).holds (kT G w e σ H Q)
def tA (G : Gx) (F : FA) : TA := fun σ H Q => ∃ w e s, IE G w e s σ H ∧ (F e s).holds (kA G w e σ H Q)
theorem kE_ext {G : Gx} {w w1 : Wd} {e : Lcs} {σ : L2.St} {H H1 : Hp} {Q : VK} {d : Dat} {s : Sto} (x : EExt w H w1 H1) (h : kE G w e σ H Q d s) : kE G w1 e σ H1 Q d s :=
  fun w' v H' I x' r => h w' v H' I (x.trans x') r
theorem kT_ext {G : Gx} {w w1 : Wd} {e : Lcs} {σ : L2.St} {H H1 : Hp} {Q : Bool → Hp → Prop} {d : Bool} {s : Sto} (x : EExt w H w1 H1) (h : kT G w e σ H Q d s) : kT G w1 e σ H1 Q d s :=
  fun w' H' I x' => h w' H' I (x.trans x')
theorem kA_ext {G : Gx} {w w1 : Wd} {e : Lcs} {σ : L2.St} {H H1 : Hp} {Q : List V → Hp → Prop} {d : List Dat} {s : Sto} (x : EExt w H w1 H1) (h : kA G w e σ H Q d s) : kA G w1 e σ H1 Q d s :=
  fun w' v H' I x' r => h w' v H' I (x.trans x') r

section
variable {X : Cx} {G : Gx}
theorem PE_imp {a : Expr} {t t' : TE} (h : PE X a t) (k : ∀ σ H Q, t' σ H Q → t σ H Q) : PE X a t' := ⟨fun pins s σ H Q I q => h.run pins s σ H Q I (k _ _ _ q)⟩
theorem PT_imp {a : Expr} {t t' : TT} (h : PT X a t) (k : ∀ σ H Q, t' σ H Q → t σ H Q) : PT X a t' := ⟨fun pins s σ H Q I q => h.run pins s σ H Q I (k _ _ _ q)⟩
theorem PW_imp {a : Expr} {t t' : TT} (h : PW X a t) (k : ∀ σ H Q, t' σ H Q → t σ H Q) : PW X a t' := ⟨fun wh pins s σ H Q I q => h.run wh pins s σ H Q I (k _ _ _ q)⟩
theorem PA_imp {a : List Expr} {t t' : TA} (h : PA X a t) (k : ∀ σ H Q, t' σ H Q → t σ H Q) : PA X a t' := ⟨fun pos pins s σ H Q I q => h.run pos pins s σ H Q I (k _ _ _ q)⟩
theorem PS_imp {a : Stmt} {t t' : TS} (h : PS X a t) (k : ∀ D σ H, t' D σ H → t D σ H) : PS X a t' := ⟨fun pins s σ H D I q => h.run pins s σ H D I (k _ _ _ q)⟩
theorem PSs_imp {a : List Stmt} {t t' : TS} (h : PSs X a t) (k : ∀ D σ H, t' D σ H → t D σ H) : PSs X a t' := ⟨fun pins s σ H D I q => h.run pins s σ H D I (k _ _ _ q)⟩

/-! ### names, constants -/
@[simp] def fVar (i : Nat) : FE := fun e s => match e[i]? with
  | some (.fz d) => .ok d s
  | _ => .bad
@[simp] def fC (d : Dat) : FE := fun _ s => .ok d s
theorem de_var (i : Nat) {x : Str} {pos : Pos} (hN : X.N[i]? = some x := by rfl) (hv : Vis X.env.scope x := by first | exact Or.inl rfl | exact Or.inr (Or.inl rfl) | exact Or.inr (Or.inr rfl)) (hd : (x == ("__debug__" : Str)) = false := by decide)
    (hcd : (x == ("__classdict__" : Str)) = false := by decide) : PE X (.Name x pos) (tE G (fVar i)) := PE_imp (pe_var (i := i) hN hv hd hcd) fun σ H Q ⟨w, e, s, I, h⟩ => by
  unfold fVar at h
  split at h
  · rename_i d hd
    obtain ⟨v, h1, h2⟩ := I.slot i d hd
    exact ⟨v, h1, h w v H I .refl h2⟩
  · exact h.elim
theorem de_c {a : Expr} {v : V} {d : Dat} (h : PE X a (tC v)) (hr : ∀ F as, Rp G.K as F d v) : PE X a (tE G (fC d)) := PE_imp h fun σ H Q ⟨w, e, s, I, h⟩ => h w v H I .refl (hr _ _)
theorem de_int {i j pos} : PE X (.Constant (.int i) j pos) (tE G (fC (.int i))) := de_c pe_int fun _ _ => by simp [Rp]
theorem de_bl {b j pos} : PE X (.Constant (.bool b) j pos) (tE G (fC (.bool b))) := de_c pe_bl fun _ _ => by simp [Rp]
theorem de_non {j pos} : PE X (.Constant .none j pos) (tE G (fC .none)) := de_c pe_non fun _ _ => by simp [Rp]
theorem de_str {x j pos} : PE X (.Constant (.str x) j pos) (tE G (fC (.str x))) := de_c pe_str fun _ _ => by simp [Rp]
theorem de_glob {x : Str} {v : V} {u : Value} {d : Dat} {pos : Pos} (hm : X.mg x = some u) (r : RelV v u) (hr : ∀ F as, Rp G.K as F d v) (hg : Gl X x := by rfl) (hd : (x == ("__debug__" : Str)) = false := by decide) : PE X (.Name x pos) (tE G (fC d)) :=
  de_c (pe_glob hg hm r hd) hr

/-! ### operators -/
@[simp] def fBin (g : Dat → Dat → Sto → Res Dat) (Fa Fb : FE) : FE := fun e s => (Fa e s).bind fun a s1 => (Fb e s1).bind fun b s2 => g a b s2
@[simp] def fUn (g : Dat → Sto → Res Dat) (Fa : FE) : FE := fun e s => (Fa e s).bind fun a s1 => g a s1
/-- a two-place rule by values does what g says -/
def OpD (G : Gx) (r : R2) (g : Dat → Dat → Sto → Res Dat) : Prop := ∀ w e s σ H x y a b Q, IE G w e s σ H → Rp G.K w.as (Fz w H) a x → Rp G.K w.as (Fz w H) b y → (g a b s).holds (kE G w e σ H Q) → r x y H Q
def UnD (G : Gx) (r : V → Hp → VK → Prop) (g : Dat → Sto → Res Dat) : Prop := ∀ w e s σ H x a Q, IE G w e s σ H → Rp G.K w.as (Fz w H) a x → (g a s).holds (kE G w e σ H Q) → r x H Q
def CallD (G : Gx) (r : List V → Hp → VK → Prop) (g : List Dat → Sto → Res Dat) : Prop := ∀ w e s σ H xs ds Q, IE G w e s σ H → RpL G.K w.as (Fz w H) ds xs → (g ds s).holds (kE G w e σ H Q) → r xs H Q
theorem tOp_of {r : R2} {g : Dat → Dat → Sto → Res Dat} {Fa Fb : FE} (hg : OpD G r g) {σ : L2.St} {H : Hp} {Q : VK} (h : tE G (fBin g Fa Fb) σ H Q) : tOp r (tE G Fa) (tE G Fb) σ H Q := by
  obtain ⟨w, e, s, I, h⟩ := h
  refine ⟨w, e, s, I, holds_imp (holds_bind h) fun a s1 h1 w1 x H1 I1 x1 r1 => ?_⟩
  refine ⟨w1, e, s1, I1, holds_imp (holds_bind h1) fun b s2 h2 w2 y H2 I2 x2 r2 => ?_⟩
  exact hg w2 e s2 σ H2 x y a b Q I2 (x2.rp r1) r2 (holds_imp h2 fun d s3 h3 => kE_ext (x1.trans x2) h3)
theorem de_bin {a b : Expr} {op : Operator} {pos : Pos} {r : R2} {g : Dat → Dat → Sto → Res Dat} {Fa Fb : FE} (ho : OpR X (binaryOp op) r) (hg : OpD G r g) (ha : PE X a (tE G Fa)) (hb : PE X b (tE G Fb)) : PE X (.BinOp a op b pos) (tE G (fBin g Fa Fb)) :=
  PE_imp (pe_op ho ha hb) fun _ _ _ h => tOp_of hg h
theorem de_cmp {a b : Expr} {op : CmpOp} {pos : Pos} {r : R2} {g : Dat → Dat → Sto → Res Dat} {Fa Fb : FE} (ho : OpR X (compareOp op) r) (hg : OpD G r g) (ha : PE X a (tE G Fa)) (hb : PE X b (tE G Fb)) (hm : behindInMarks op b = false := by first | exact nomark _ | with_unfolding_all rfl) :
    PE X (.Compare a [op] [b] pos) (tE G (fBin g Fa Fb)) := PE_imp (pe_cmpR ho ha hb hm) fun _ _ _ h => tOp_of hg h
theorem de_un {a : Expr} {op : UnaryOp} {pos : Pos} {r : V → Hp → VK → Prop} {g : Dat → Sto → Res Dat} {Fa : FE} (ho : UnR X (unaryOp op) r) (hg : UnD G r g) (ha : PE X a (tE G Fa)) : PE X (.UnaryOp op a pos) (tE G (fUn g Fa)) :=
  PE_imp (pe_un ho ha) fun σ H Q ⟨w, e, s, I, h⟩ => ⟨w, e, s, I, holds_imp (holds_bind h) fun a s1 h1 w1 x H1 I1 x1 r1 => hg w1 e s1 σ H1 x a Q I1 r1 (holds_imp h1 fun d s2 h2 => kE_ext x1 h2)⟩
/-- a value that hangs on no heap -/
theorem flat_ok {w : Wd} {e : Lcs} {s : Sto} {σ : L2.St} {H : Hp} {Q : VK} {d : Dat} {v : V} (I : IE G w e s σ H) (h : (Res.ok d s).holds (kE G w e σ H Q)) (hr : Rp G.K w.as (Fz w H) d v) : Q v H := h w v H I .refl hr
theorem OpD.or {r r' : R2} {g : Dat → Dat → Sto → Res Dat} (h : ∀ w e s σ H x y a b Q, IE G w e s σ H → Rp G.K w.as (Fz w H) a x → Rp G.K w.as (Fz w H) b y → (g a b s).holds (kE G w e σ H Q) → r x y H Q ∨ r' x y H Q) : OpD G (fun x y H Q => r x y H Q ∨ r' x y H Q) g := h
/-- ints in, an int out -/
@[simp] def gII (C : Int → Int → Bool) (f : Int → Int → Int) : Dat → Dat → Sto → Res Dat := fun a b s => match a, b with
  | .int i, .int j => if C i j then .ok (.int (f i j)) s else .bad
  | _, _ => .bad
@[simp] def gII0 (f : Int → Int → Int) : Dat → Dat → Sto → Res Dat := fun a b s => match a, b with
  | .int i, .int j => .ok (.int (f i j)) s
  | _, _ => .bad
@[simp] def gIB (f : Int → Int → Bool) : Dat → Dat → Sto → Res Dat := fun a b s => match a, b with
  | .int i, .int j => .ok (.bool (f i j)) s
  | _, _ => .bad
theorem rp_int {K as F} {i : Int} {v : V} (h : Rp K as F (.int i) v) : v = .int i := by simpa [Rp] using h
theorem rp_bool {K as F} {i : Bool} {v : V} (h : Rp K as F (.bool i) v) : v = .bl i := by simpa [Rp] using h
theorem rp_str {K as F} {i : Str} {v : V} (h : Rp K as F (.str i) v) : v = .str i := by simpa [Rp] using h
theorem rp_none {K as F} {v : V} (h : Rp K as F .none v) : v = .non := by simpa [Rp] using h
theorem rp_list {K as F} {ds : List Dat} {v : V} (h : Rp K as F (.list ds) v) : ∃ a xs, v = .ref a ∧ F a = some (.lst xs) ∧ RpL K as F ds xs := by simpa only [Rp] using h
theorem rp_tuple {K as F} {ds : List Dat} {v : V} (h : Rp K as F (.tuple ds) v) : ∃ a xs, v = .ref a ∧ SqT K F a xs ∧ RpL K as F ds xs := by simpa only [Rp] using h
theorem rp_cel {K as F} {n : Nat} {v : V} (h : Rp K as F (cel n) v) : ∃ a, v = .ref a ∧ as[n]? = some a := by simpa [Rp] using h
theorem rp_i {K as F} {i : Int} : Rp K as F (.int i) (.int i) := by simp [Rp]
theorem rp_b {K as F} {i : Bool} : Rp K as F (.bool i) (.bl i) := by simp [Rp]
theorem rp_s {K as F} {i : Str} : Rp K as F (.str i) (.str i) := by simp [Rp]
theorem rp_n {K as F} : Rp K as F .none .non := by simp [Rp]
theorem opII {C : Int → Int → Prop} {C' : Int → Int → Bool} {f : Int → Int → Int} (hc : ∀ i j, C' i j = true → C i j) : OpD G (rI C fun i j => .int (f i j)) (gII C' f) := by
  intro w e s σ H x y a b Q I ra rb h
  unfold gII at h
  split at h
  · rename_i i j
    split at h
    · rename_i c
      exact ⟨i, j, rp_int ra, rp_int rb, hc i j c, flat_ok I h rp_i⟩
    · exact h.elim
  · exact h.elim
theorem opII0 {f : Int → Int → Int} : OpD G (rI0 fun i j => .int (f i j)) (gII0 f) := by
  intro w e s σ H x y a b Q I ra rb h
  unfold gII0 at h
  split at h
  · rename_i i j
    exact ⟨i, j, rp_int ra, rp_int rb, flat_ok I h rp_i⟩
  · exact h.elim
theorem opIB {f : Int → Int → Bool} : OpD G (rI0 fun i j => .bl (f i j)) (gIB f) := by
  intro w e s σ H x y a b Q I ra rb h
  unfold gIB at h
  split at h
  · rename_i i j
    exact ⟨i, j, rp_int ra, rp_int rb, flat_ok I h rp_b⟩
  · exact h.elim
def cMul (i j : Int) : Bool := decide (i.natAbs.log2 + j.natAbs.log2 < 1000000)
def cDiv (i j : Int) : Bool := decide (0 < j) && decide (j.natAbs.log2 < 9000)
def cMod (i j : Int) : Bool := decide (0 < j)
def cPow (i j : Int) : Bool := decide (0 ≤ j) && decide (j ≤ 1000000) && decide (i.natAbs < 2 ^ 64)
section
variable {a b : Expr} {pos : Pos} {Fa Fb : FE}
theorem de_sub (ha : PE X a (tE G Fa)) (hb : PE X b (tE G Fb)) : PE X (.BinOp a .Sub b pos) (tE G (fBin (gII0 (· - ·)) Fa Fb)) := de_bin op_sub opII0 ha hb
theorem de_addI (ha : PE X a (tE G Fa)) (hb : PE X b (tE G Fb)) : PE X (.BinOp a .Add b pos) (tE G (fBin (gII0 (· + ·)) Fa Fb)) := de_bin op_add opII0 ha hb
theorem de_mul (ha : PE X a (tE G Fa)) (hb : PE X b (tE G Fb)) : PE X (.BinOp a .Mult b pos) (tE G (fBin (gII cMul (· * ·)) Fa Fb)) := de_bin op_mulW (opII fun i j h => show i.natAbs.log2 + j.natAbs.log2 < 1000000 from of_decide_eq_true h) ha hb
theorem de_fdiv (ha : PE X a (tE G Fa)) (hb : PE X b (tE G Fb)) : PE X (.BinOp a .FloorDiv b pos) (tE G (fBin (gII cDiv (· / ·)) Fa Fb)) := de_bin op_fdivW (opII fun i j h => by
  unfold cDiv at h
  rw [Bool.and_eq_true] at h
  exact ⟨of_decide_eq_true h.1, of_decide_eq_true h.2⟩) ha hb
theorem de_mod (ha : PE X a (tE G Fa)) (hb : PE X b (tE G Fb)) : PE X (.BinOp a .Mod b pos) (tE G (fBin (gII cMod (· % ·)) Fa Fb)) := de_bin op_mod (opII fun i j h => of_decide_eq_true h) ha hb
theorem de_pow (ha : PE X a (tE G Fa)) (hb : PE X b (tE G Fb)) : PE X (.BinOp a .Pow b pos) (tE G (fBin (gII cPow fun i j => i ^ j.toNat) Fa Fb)) := de_bin op_pow (opII fun i j h => by
  unfold cPow at h
  rw [Bool.and_eq_true, Bool.and_eq_true] at h
  exact ⟨of_decide_eq_true h.1.1, of_decide_eq_true h.1.2, of_decide_eq_true h.2⟩) ha hb
theorem de_shl (ha : PE X a (tE G Fa)) (hb : PE X b (tE G Fb)) : PE X (.BinOp a .LShift b pos) (tE G (fBin (gII cPow fun i j => i * 2 ^ j.toNat) Fa Fb)) := de_bin op_shl (opII fun i j h => by
  unfold cPow at h
  rw [Bool.and_eq_true, Bool.and_eq_true] at h
  exact ⟨of_decide_eq_true h.1.1, of_decide_eq_true h.1.2, of_decide_eq_true h.2⟩) ha hb
theorem de_lt (ha : PE X a (tE G Fa)) (hb : PE X b (tE G Fb)) : PE X (.Compare a [.Lt] [b] pos) (tE G (fBin (gIB fun i j => decide (i < j)) Fa Fb)) := de_cmp op_lt opIB ha hb
theorem de_le (ha : PE X a (tE G Fa)) (hb : PE X b (tE G Fb)) : PE X (.Compare a [.LtE] [b] pos) (tE G (fBin (gIB fun i j => decide (i ≤ j)) Fa Fb)) := de_cmp op_le opIB ha hb
theorem de_gt (ha : PE X a (tE G Fa)) (hb : PE X b (tE G Fb)) : PE X (.Compare a [.Gt] [b] pos) (tE G (fBin (gIB fun i j => decide (j < i)) Fa Fb)) := de_cmp op_gt opIB ha hb
theorem de_ge (ha : PE X a (tE G Fa)) (hb : PE X b (tE G Fb)) : PE X (.Compare a [.GtE] [b] pos) (tE G (fBin (gIB fun i j => decide (j ≤ i)) Fa Fb)) := de_cmp op_ge opIB ha hb
end
/-! ### == of data -/
mutual
theorem dp_of {K as F} : ∀ (d : Dat) (v : V), d.canLay0 = true → Rp K as F d v → Dp K F v d
  | .none, v, _, h => by rw [rp_none h]; exact .non
  | .bool b, v, _, h => by rw [rp_bool h]; exact .bl b
  | .int i, v, _, h => by rw [rp_int h]; exact .int i
  | .str x, v, _, h => by rw [rp_str h]; exact .str x
  | .list ds, v, c, h => by
    obtain ⟨a, xs, rfl, q, r⟩ := rp_list h
    exact .lst (.inl (.inl q)) (dpA_of ds xs (by simpa [PyData.canLay0] using c) r)
  | .tuple ds, v, c, h => by
    obtain ⟨a, xs, rfl, q, r⟩ := rp_tuple h
    exact .tup q (dpA_of ds xs (by simpa [PyData.canLay0] using c) r)
  | .dict _, v, c, h => by simp [PyData.canLay0] at c
theorem dpA_of {K as F} : ∀ (ds : List Dat) (vs : List V), PyData.canLayAll0 ds = true → RpL K as F ds vs → DpAll K F vs ds
  | [], [], _, _ => .nil
  | d :: ds, v :: vs, c, h => by
    simp only [PyData.canLayAll0, Bool.and_eq_true] at c
    simp only [RpL] at h
    exact .cons (dp_of d v c.1 h.1) (dpA_of ds vs c.2 h.2)
  | [], _ :: _, _, h => by simp [RpL] at h
  | _ :: _, [], _, h => by simp [RpL] at h
end
mutual
theorem Dp_mono {K : PySem.W.Frag} {F F' : Hp} (hs : Same F F') : ∀ (d : Dat) (v : V), Dp K F v d → Dp K F' v d
  | .none, v, h => by cases h; exact .non
  | .bool b, v, h => by cases h; exact .bl b
  | .int i, v, h => by cases h; exact .int i
  | .str x, v, h => by cases h; exact .str x
  | .list ds, v, h => by
    cases h with
    | lst q r => exact .lst (sqL_mono hs q) (DpA_mono hs ds _ r)
  | .tuple ds, v, h => by
    cases h with
    | tup q r => exact .tup (sqT_mono hs q) (DpA_mono hs ds _ r)
  | .dict _, v, h => by cases h
theorem DpA_mono {K : PySem.W.Frag} {F F' : Hp} (hs : Same F F') : ∀ (ds : List Dat) (vs : List V), DpAll K F vs ds → DpAll K F' vs ds
  | [], vs, h => by cases h; exact .nil
  | d :: ds, vs, h => by
    cases h with
    | cons q r => exact .cons (Dp_mono hs d _ q) (DpA_mono hs ds _ r)
end
def gEq : Dat → Dat → Sto → Res Dat := fun a b s => if SeqAt.shaped a && SeqAt.shaped b then .ok (.bool (PyData.eqv a b)) s else .bad
def gNe : Dat → Dat → Sto → Res Dat := fun a b s => if SeqAt.shaped a && SeqAt.shaped b then .ok (.bool (!PyData.eqv a b)) s else .bad
theorem opEq : OpD G (rEqD G.K) gEq := by
  intro w e s σ H x y a b Q I ra rb h
  unfold gEq at h
  split at h
  · rename_i c
    rw [Bool.and_eq_true] at c
    exact ⟨a, b, Dp_mono Fz_sub _ _ (dp_of a x (SeqAt.canLay_of_shaped c.1) ra), Dp_mono Fz_sub _ _ (dp_of b y (SeqAt.canLay_of_shaped c.2) rb), c.1, c.2, flat_ok I h rp_b⟩
  · exact h.elim
theorem opNe : OpD G (rNeD G.K) gNe := by
  intro w e s σ H x y a b Q I ra rb h
  unfold gNe at h
  split at h
  · rename_i c
    rw [Bool.and_eq_true] at c
    exact ⟨a, b, Dp_mono Fz_sub _ _ (dp_of a x (SeqAt.canLay_of_shaped c.1) ra), Dp_mono Fz_sub _ _ (dp_of b y (SeqAt.canLay_of_shaped c.2) rb), c.1, c.2, flat_ok I h rp_b⟩
  · exact h.elim
section
variable {a b : Expr} {pos : Pos} {Fa Fb : FE}
theorem de_eq (hu : X.A.units + 64 < cLine) (hK : X.K = G.K) (ha : PE X a (tE G Fa)) (hb : PE X b (tE G Fb)) : PE X (.Compare a [.Eq] [b] pos) (tE G (fBin gEq Fa Fb)) := de_cmp (op_eqD hu) (by rw [hK]; exact opEq) ha hb
theorem de_ne (hu : X.A.units + 64 < cLine) (hK : X.K = G.K) (ha : PE X a (tE G Fa)) (hb : PE X b (tE G Fb)) : PE X (.Compare a [.NotEq] [b] pos) (tE G (fBin gNe Fa Fb)) := de_cmp (op_neD hu) (by rw [hK]; exact opNe) ha hb
end
/-! ### -a -/
@[simp] def gNeg : Dat → Sto → Res Dat := fun a s => match a with
  | .int i => .ok (.int (-i)) s
  | _ => .bad
theorem de_neg {a : Expr} {pos : Pos} {Fa : FE} (ha : PE X a (tE G Fa)) : PE X (.UnaryOp .USub a pos) (tE G (fUn gNeg Fa)) := de_un un_neg (fun w e s σ H x a Q I ra h => by
  unfold gNeg at h
  split at h
  · rename_i i
    exact ⟨i, rp_int ra, flat_ok I h rp_i⟩
  · exact h.elim) ha

/-! ### tests -/
/-- a value that is a bool, as a test -/
@[simp] def fB (F : FE) : FT := fun e s => (F e s).bind fun d s' => match d with
  | .bool b => .ok b s'
  | _ => .bad
theorem tB_of {F : FE} {σ : L2.St} {H : Hp} {Q : Bool → Hp → Prop} (h : tT G (fB F) σ H Q) : tB (tE G F) σ H Q := by
  obtain ⟨w, e, s, I, h⟩ := h
  refine ⟨w, e, s, I, holds_imp (holds_bind h) fun d s1 h1 w1 x H1 I1 x1 r1 => ?_⟩
  split at h1
  · rename_i b
    exact ⟨b, rp_bool r1, h1 w1 H1 I1 x1⟩
  · exact h1.elim
theorem dt_val {a : Expr} {F : FE} (h : PE X a (tE G F)) (he : ∀ whole, isTrue a X.env whole = (do let v ← whole; standAt a.pos; holding [v] (truthy v)) := by intro _; rfl) : PT X a (tT G (fB F)) := PT_imp (pt_val h he) fun _ _ _ h => tB_of h
theorem dt_cmp {a b : Expr} {op : CmpOp} {pos : Pos} {r : R2} {g : Dat → Dat → Sto → Res Dat} {Fa Fb : FE} (ho : OpR X (compareOp op) r) (hg : OpD G r g) (ha : PE X a (tE G Fa)) (hb : PE X b (tE G Fb)) (hm : behindInMarks op b = false := by first | exact nomark _ | with_unfolding_all rfl) :
    PT X (.Compare a [op] [b] pos) (tT G (fB (fBin g Fa Fb))) := PT_imp (pt_cmpR ho ha hb hm) fun σ H Q h => by
  obtain ⟨w, e, s, I, h⟩ := h
  show tOp r (tE G Fa) (tE G Fb) σ H fun x H' => ∃ k, x = .bl k ∧ Q k H'
  refine tOp_of hg ⟨w, e, s, I, holds_imp (holds_bind h) fun d s1 h1 w1 x H1 I1 x1 r1 => ?_⟩
  split at h1
  · rename_i b
    exact ⟨b, rp_bool r1, h1 w1 H1 I1 x1⟩
  · exact h1.elim
section
variable {a b : Expr} {pos : Pos} {Fa Fb : FE}
theorem dt_lt (ha : PE X a (tE G Fa)) (hb : PE X b (tE G Fb)) : PT X (.Compare a [.Lt] [b] pos) (tT G (fB (fBin (gIB fun i j => decide (i < j)) Fa Fb))) := dt_cmp op_lt opIB ha hb
theorem dt_le (ha : PE X a (tE G Fa)) (hb : PE X b (tE G Fb)) : PT X (.Compare a [.LtE] [b] pos) (tT G (fB (fBin (gIB fun i j => decide (i ≤ j)) Fa Fb))) := dt_cmp op_le opIB ha hb
theorem dt_gt (ha : PE X a (tE G Fa)) (hb : PE X b (tE G Fb)) : PT X (.Compare a [.Gt] [b] pos) (tT G (fB (fBin (gIB fun i j => decide (j < i)) Fa Fb))) := dt_cmp op_gt opIB ha hb
theorem dt_ge (ha : PE X a (tE G Fa)) (hb : PE X b (tE G Fb)) : PT X (.Compare a [.GtE] [b] pos) (tT G (fB (fBin (gIB fun i j => decide (j ≤ i)) Fa Fb))) := dt_cmp op_ge opIB ha hb
theorem dt_eq (hu : X.A.units + 64 < cLine) (hK : X.K = G.K) (ha : PE X a (tE G Fa)) (hb : PE X b (tE G Fb)) : PT X (.Compare a [.Eq] [b] pos) (tT G (fB (fBin gEq Fa Fb))) := dt_cmp (op_eqD hu) (by rw [hK]; exact opEq) ha hb
theorem dt_ne (hu : X.A.units + 64 < cLine) (hK : X.K = G.K) (ha : PE X a (tE G Fa)) (hb : PE X b (tE G Fb)) : PT X (.Compare a [.NotEq] [b] pos) (tT G (fB (fBin gNe Fa Fb))) := dt_cmp (op_neD hu) (by rw [hK]; exact opNe) ha hb
end
@[simp] def fAnd (Fa Fb : FT) : FT := fun e s => (Fa e s).bind fun a s1 => if a then Fb e s1 else .ok false s1
@[simp] def fOr (Fa Fb : FT) : FT := fun e s => (Fa e s).bind fun a s1 => if a then .ok true s1 else Fb e s1
@[simp] def fNot (Fa : FT) : FT := fun e s => (Fa e s).bind fun a s1 => .ok (!a) s1
section
variable {a b : Expr} {rest : List Expr} {pos : Pos} {Fa Fb : FT}
theorem tAnd_of {σ : L2.St} {H : Hp} {Q : Bool → Hp → Prop} (h : tT G (fAnd Fa Fb) σ H Q) : tAnd (tT G Fa) (tT G Fb) σ H Q := by
  obtain ⟨w, e, s, I, h⟩ := h
  refine ⟨w, e, s, I, holds_imp (holds_bind h) fun d s1 h1 w1 H1 I1 x1 => ?_⟩
  cases d with
  | true => exact iteT ⟨w1, e, s1, I1, holds_imp h1 fun _ _ h2 => kT_ext x1 h2⟩
  | false => exact iteF (h1 w1 H1 I1 x1)
theorem tOr_of {σ : L2.St} {H : Hp} {Q : Bool → Hp → Prop} (h : tT G (fOr Fa Fb) σ H Q) : tOr (tT G Fa) (tT G Fb) σ H Q := by
  obtain ⟨w, e, s, I, h⟩ := h
  refine ⟨w, e, s, I, holds_imp (holds_bind h) fun d s1 h1 w1 H1 I1 x1 => ?_⟩
  cases d with
  | false => exact iteF ⟨w1, e, s1, I1, holds_imp h1 fun _ _ h2 => kT_ext x1 h2⟩
  | true => exact iteT (h1 w1 H1 I1 x1)
theorem dw_and1 (ha : PT X a (tT G Fa)) : PW X (.BoolOp .And [a] pos) (tT G Fa) := pw_and1 ha
theorem dw_or1 (ha : PT X a (tT G Fa)) : PW X (.BoolOp .Or [a] pos) (tT G Fa) := pw_or1 ha
theorem dw_and (ha : PT X a (tT G Fa)) (hb : PW X (.BoolOp .And (b :: rest) pos) (tT G Fb)) : PW X (.BoolOp .And (a :: b :: rest) pos) (tT G (fAnd Fa Fb)) := PW_imp (pw_and ha hb) fun _ _ _ h => tAnd_of h
theorem dw_or (ha : PT X a (tT G Fa)) (hb : PW X (.BoolOp .Or (b :: rest) pos) (tT G Fb)) : PW X (.BoolOp .Or (a :: b :: rest) pos) (tT G (fOr Fa Fb)) := PW_imp (pw_or ha hb) fun _ _ _ h => tOr_of h
theorem dt_bool (h : PW X a (tT G Fa)) : PT X a (tT G Fa) := h.pt
theorem dt_not (ha : PT X a (tT G Fa)) : PT X (.UnaryOp .Not a pos) (tT G (fNot Fa)) := PT_imp (pt_not ha) fun σ H Q ⟨w, e, s, I, h⟩ => ⟨w, e, s, I, holds_imp (holds_bind h) fun d s1 h1 w1 H1 I1 x1 => h1 w1 H1 I1 x1⟩
end
/-- .. as values -/
@[simp] def fAndV (Fa Fb : FE) : FE := fun e s => (fB Fa e s).bind fun a s1 => if a then Fb e s1 else .ok (.bool false) s1
@[simp] def fOrV (Fa Fb : FE) : FE := fun e s => (fB Fa e s).bind fun a s1 => if a then .ok (.bool true) s1 else Fb e s1
@[simp] def fNotV (Fa : FE) : FE := fun e s => (fB Fa e s).bind fun a s1 => .ok (.bool (!a)) s1
section
variable {a b : Expr} {rest : List Expr} {pos : Pos} {Fa Fb : FE}
theorem de_one {op : BoolOp} (h : PE X a (tE G Fa)) : PE X (.BoolOp op [a] pos) (tE G Fa) := pe_one h
theorem de_and (ha : PE X a (tE G Fa)) (hb : PE X (.BoolOp .And (b :: rest) pos) (tE G Fb)) : PE X (.BoolOp .And (a :: b :: rest) pos) (tE G (fAndV Fa Fb)) := PE_imp (pe_and ha hb) fun σ H Q ⟨w, e, s, I, h⟩ => by
  refine ⟨w, e, s, I, holds_imp (holds_bind (holds_bind h)) fun d s1 h1 w1 x H1 I1 x1 r1 => ?_⟩
  split at h1
  · rename_i c
    refine ⟨c, rp_bool r1, ?_⟩
    cases c with
    | true => exact iteT ⟨w1, e, s1, I1, holds_imp h1 fun _ _ h2 => kE_ext x1 h2⟩
    | false => exact iteF (h1 w1 _ H1 I1 x1 rp_b)
  · exact h1.elim
theorem de_or (ha : PE X a (tE G Fa)) (hb : PE X (.BoolOp .Or (b :: rest) pos) (tE G Fb)) : PE X (.BoolOp .Or (a :: b :: rest) pos) (tE G (fOrV Fa Fb)) := PE_imp (pe_or ha hb) fun σ H Q ⟨w, e, s, I, h⟩ => by
  refine ⟨w, e, s, I, holds_imp (holds_bind (holds_bind h)) fun d s1 h1 w1 x H1 I1 x1 r1 => ?_⟩
  split at h1
  · rename_i c
    refine ⟨c, rp_bool r1, ?_⟩
    cases c with
    | false => exact iteF ⟨w1, e, s1, I1, holds_imp h1 fun _ _ h2 => kE_ext x1 h2⟩
    | true => exact iteT (h1 w1 _ H1 I1 x1 rp_b)
  · exact h1.elim
theorem de_not (ha : PE X a (tE G Fa)) : PE X (.UnaryOp .Not a pos) (tE G (fNotV Fa)) := PE_imp (pe_not ha) fun σ H Q ⟨w, e, s, I, h⟩ => by
  refine ⟨w, e, s, I, holds_imp (holds_bind (holds_bind h)) fun d s1 h1 w1 x H1 I1 x1 r1 => ?_⟩
  split at h1
  · rename_i c
    exact ⟨c, rp_bool r1, h1 w1 _ H1 I1 x1 rp_b⟩
  · exact h1.elim
@[simp] def fIf (Fc : FT) (Fa Fb : FE) : FE := fun e s => (Fc e s).bind fun c s1 => if c then Fa e s1 else Fb e s1
theorem de_if {c : Expr} {Fc : FT} (hc : PT X c (tT G Fc)) (ha : PE X a (tE G Fa)) (hb : PE X b (tE G Fb)) : PE X (.IfExp c a b pos) (tE G (fIf Fc Fa Fb)) := PE_imp (pe_ifExp hc ha hb) fun σ H Q ⟨w, e, s, I, h⟩ => by
  refine ⟨w, e, s, I, holds_imp (holds_bind h) fun d s1 h1 w1 H1 I1 x1 => ?_⟩
  cases d with
  | true => exact iteT ⟨w1, e, s1, I1, holds_imp h1 fun _ _ h2 => kE_ext x1 h2⟩
  | false => exact iteF ⟨w1, e, s1, I1, holds_imp h1 fun _ _ h2 => kE_ext x1 h2⟩
end

/-! ### argument lists, displays -/
@[simp] def fNil : FA := fun _ s => .ok [] s
@[simp] def fCons (Fa : FE) (Fr : FA) : FA := fun e s => (Fa e s).bind fun a s1 => (Fr e s1).bind fun r s2 => .ok (a :: r) s2
theorem da_nil : PA X [] (tA G fNil) := PA_imp pa_nil fun σ H Q ⟨w, e, s, I, h⟩ => h w [] H I .refl RpL.nil
theorem da_cons {a : Expr} {r : List Expr} {Fa : FE} {Fr : FA} (ha : PE X a (tE G Fa)) (hr : PA X r (tA G Fr)) (hs : starEach (a :: r) X.env = (false, eval a X.env) :: starEach r X.env := by rfl) : PA X (a :: r) (tA G (fCons Fa Fr)) :=
  PA_imp (pa_cons ha hr hs) fun σ H Q ⟨w, e, s, I, h⟩ => by
    refine ⟨w, e, s, I, holds_imp (holds_bind h) fun a s1 h1 w1 x H1 I1 x1 r1 => ?_⟩
    refine ⟨w1, e, s1, I1, holds_imp (holds_bind h1) fun as s2 h2 w2 xs H2 I2 x2 r2 => ?_⟩
    exact h2 w2 (x :: xs) H2 I2 (x1.trans x2) (RpL.cons (x2.rp r1) r2)
@[simp] def cLen {α : Type} (ds : List α) : Bool := decide (ds.length ≤ sizeLine)
@[simp] def fTup (Fs : FA) : FE := fun e s => (Fs e s).bind fun ds s1 => if cLen ds then .ok (.tuple ds) s1 else .bad
@[simp] def fLst (Fs : FA) : FE := fun e s => (Fs e s).bind fun ds s1 => if cLen ds then .ok (.list ds) s1 else .bad
theorem new_list {w : Wd} {e : Lcs} {s : Sto} {σ : L2.St} {H : Hp} {Q : VK} {ds : List Dat} {vs : List V} {p : Addr} (I : IE G w e s σ H) (r : RpL G.K w.as (Fz w H) ds vs) (h : kE G w e σ H Q (.list ds) s) (hp : H p = none) : Q (.ref p) (upd H p (.lst vs)) :=
  h w _ _ (I.new hp) (I.newE hp) (by
    simp only [Rp]
    exact ⟨p, vs, rfl, I.newF hp, (I.newE hp).rpl r⟩)
theorem new_tuple {w : Wd} {e : Lcs} {s : Sto} {σ : L2.St} {H : Hp} {Q : VK} {ds : List Dat} {vs : List V} {p : Addr} (I : IE G w e s σ H) (r : RpL G.K w.as (Fz w H) ds vs) (h : kE G w e σ H Q (.tuple ds) s) (hp : H p = none) : Q (.ref p) (upd H p (.tup vs)) :=
  h w _ _ (I.new hp) (I.newE hp) (by
    simp only [Rp]
    exact ⟨p, vs, rfl, .inl (.inl (I.newF hp)), (I.newE hp).rpl r⟩)
section
variable {es : List Expr} {pos : Pos} {Fs : FA}
theorem de_tup {x1} (h : PA X es (tA G Fs)) : PE X (.Tuple es x1 pos) (tE G (fTup Fs)) := PE_imp (pe_tup h) fun σ H Q ⟨w, e, s, I, h⟩ => by
  refine ⟨w, e, s, I, holds_imp (holds_bind h) fun ds s1 h1 w1 xs H1 I1 x1 r1 => ?_⟩
  split at h1
  · rename_i c
    exact ⟨by rw [r1.length]; exact of_decide_eq_true c, fun p hp => new_tuple I1 r1 (kE_ext x1 h1) hp⟩
  · exact h1.elim
theorem de_lst (h : PA X es (tA G Fs)) : PE X (.List es pos) (tE G (fLst Fs)) := PE_imp (pe_lst h) fun σ H Q ⟨w, e, s, I, h⟩ => by
  refine ⟨w, e, s, I, holds_imp (holds_bind h) fun ds s1 h1 w1 xs H1 I1 x1 r1 => ?_⟩
  split at h1
  · rename_i c
    exact ⟨by rw [r1.length]; exact of_decide_eq_true c, fun p hp => new_list I1 r1 (kE_ext x1 h1) hp⟩
  · exact h1.elim
end

/-! ### subscripts -/
@[simp] def gIx : Dat → Dat → Sto → Res Dat := fun a b s => match b with
  | .int i => match a with
    | .list ds => match atI ds i with
      | some d => .ok d s
      | none => .bad
    | .tuple ds => match atI ds i with
      | some d => .ok d s
      | none => .bad
    | .str z => if z.length ≤ sizeLine then match atI z.cps.toList i with
      | some c => .ok (.str ⟨#[c]⟩) s
      | none => .bad else .bad
    | .dict [(.int n, .none)] => match s[n.toNat]? with
      | some (.ls ds) => match atI ds i with
        | some d => .ok d s
        | none => .bad
      | none => .bad
    | _ => .bad
  | _ => .bad
theorem atI_rp {K as F} {ds : List Dat} {vs : List V} {i : Int} {d : Dat} (r : RpL K as F ds vs) (h : atI ds i = some d) : ∃ v, atI vs i = some v ∧ Rp K as F d v := by
  unfold atI at h ⊢
  rw [r.length]
  cases e : ixN ds.length i with
  | none => rw [e] at h; cases h
  | some j =>
    rw [e] at h
    have h' : ds[j]? = some d := h
    obtain ⟨v, h1, h2⟩ := r.get' h'
    exact ⟨v, h1, h2⟩
theorem opIx : OpD G (rIx G.K) gIx := by
  intro w e s σ H x y a b Q I ra rb h
  unfold gIx at h
  split at h
  · rename_i i
    split at h
    · rename_i ds
      obtain ⟨p, xs, rfl, q, r⟩ := rp_list ra
      split at h
      · rename_i d hd
        obtain ⟨v, h1, h2⟩ := atI_rp r hd
        exact .inl ⟨p, xs, i, v, rfl, rp_int rb, .inl (.inl (Fz_sub _ _ q)), h1, flat_ok I h h2⟩
      · exact h.elim
    · rename_i ds
      obtain ⟨p, xs, rfl, q, r⟩ := rp_tuple ra
      split at h
      · rename_i d hd
        obtain ⟨v, h1, h2⟩ := atI_rp r hd
        exact .inr (.inl ⟨p, xs, i, v, rfl, rp_int rb, sqT_mono Fz_sub q, h1, flat_ok I h h2⟩)
      · exact h.elim
    · rename_i z
      split at h
      · rename_i hz
        split at h
        · rename_i c hc
          exact .inr (.inr ⟨z, i, c, rp_str ra, rp_int rb, hz, hc, flat_ok I h rp_s⟩)
        · exact h.elim
      · exact h.elim
    · rename_i n
      split at h
      · rename_i ds hs
        split at h
        · rename_i d hd
          have ra' : ∃ a, x = .ref a ∧ w.as[n.toNat]? = some a := by simpa [Rp] using ra
          obtain ⟨p, rfl, hp⟩ := ra'
          obtain ⟨a', vs, e1, e2, e3⟩ := I.cells _ _ hs
          rw [hp] at e1; cases e1
          obtain ⟨v, h1, h2⟩ := atI_rp e3 hd
          exact .inl ⟨p, vs, i, v, rfl, rp_int rb, .inl (.inl e2), h1, flat_ok I h h2⟩
        · exact h.elim
      · exact h.elim
    · exact h.elim
  · exact h.elim
theorem de_ix {a b : Expr} {pos : Pos} {Fa Fb : FE} (hK : X.K = G.K) (ha : PE X a (tE G Fa)) (hb : PE X b (tE G Fb)) (hs : PlainIx b := by exact fun _ _ => rfl) : PE X (.Subscript a b pos) (tE G (fBin gIx Fa Fb)) :=
  PE_imp (pe_ix ix_seq ha hb hs) fun _ _ _ h => tOp_of (by rw [hK]; exact opIx) h
end
end DL

namespace DL
open PySem PySem.Spec PyProof.Rows L2
section
variable {X : Cx} {G : Gx}

/-! ### + -/
@[simp] def gAdd : Dat → Dat → Sto → Res Dat := fun a b s => match a, b with
  | .int i, .int j => .ok (.int (i + j)) s
  | .str x, .str y => if x.length + y.length ≤ sizeLine then .ok (.str (x ++ y)) s else .bad
  | .list xs, .list ys => if xs.length + ys.length ≤ sizeLine then .ok (.list (xs ++ ys)) s else .bad
  | .tuple xs, .tuple ys => if xs.length + ys.length ≤ sizeLine then .ok (.tuple (xs ++ ys)) s else .bad
  | _, _ => .bad
def rAdd (K : PySem.W.Frag) : R2 := fun x y H Q => rI0 (fun i j => .int (i + j)) x y H Q ∨ (∃ i j, x = .str i ∧ y = .str j ∧ i.length + j.length ≤ sizeLine ∧ Q (.str (i ++ j)) H) ∨ rCat x y H Q ∨ rCatA K x y H Q
theorem op_addA : OpR X (binaryOp .Add) (rAdd X.K) := op_add.or (op_add_str.or (op_cat.or op_catA))
theorem opAdd : OpD G (rAdd G.K) gAdd := by
  intro w e s σ H x y a b Q I ra rb h
  unfold gAdd at h
  split at h
  · rename_i i j
    exact .inl ⟨i, j, rp_int ra, rp_int rb, flat_ok I h rp_i⟩
  · rename_i i j
    split at h
    · rename_i c
      exact .inr (.inl ⟨i, j, rp_str ra, rp_str rb, c, flat_ok I h rp_s⟩)
    · exact h.elim
  · split at h
    · rename_i c
      obtain ⟨p, xs, rfl, hp, rx⟩ := rp_list ra
      obtain ⟨q, ys, rfl, hq, ry⟩ := rp_list rb
      exact .inr (.inr (.inl ⟨p, q, xs, ys, rfl, rfl, Fz_sub _ _ hp, Fz_sub _ _ hq, by rw [rx.length, ry.length]; exact c, fun l hl => new_list I (rx.append ry) h hl⟩))
    · exact h.elim
  · split at h
    · rename_i c
      obtain ⟨p, xs, rfl, hp, rx⟩ := rp_tuple ra
      obtain ⟨q, ys, rfl, hq, ry⟩ := rp_tuple rb
      refine .inr (.inr (.inr ⟨p, q, xs, ys, rfl, rfl, sqT_mono Fz_sub hp, sqT_mono Fz_sub hq, by rw [rx.length, ry.length]; exact c, fun z => ?_, fun _ z => ?_, fun _ _ l hl => new_tuple I (rx.append ry) h hl⟩))
      · refine flat_ok I h ?_
        have e : xs = [] := z
        subst e
        have e2 := rx.length
        have e3 := List.eq_nil_of_length_eq_zero e2.symm
        subst e3
        exact rb
      · refine flat_ok I h ?_
        have e : ys = [] := z
        subst e
        have e2 := ry.length
        have e3 := List.eq_nil_of_length_eq_zero e2.symm
        subst e3
        rw [List.append_nil]
        exact ra
    · exact h.elim
  · exact h.elim
theorem de_add {a b : Expr} {pos : Pos} {Fa Fb : FE} (hK : X.K = G.K) (ha : PE X a (tE G Fa)) (hb : PE X b (tE G Fb)) : PE X (.BinOp a .Add b pos) (tE G (fBin gAdd Fa Fb)) := de_bin op_addA (by rw [hK]; exact opAdd) ha hb

/-! ### slices -/
abbrev FO := Lcs → Sto → Res (Option Int)
def kO (G : Gx) (w : Wd) (e : Lcs) (σ : L2.St) (H : Hp) (Q : Option Int → Hp → Prop) : Option Int → Sto → Prop := fun b s' => ∀ w' H', IE G w' e s' σ H' → EExt w H w' H' → Q b H'
def tO (G : Gx) (F : FO) : L2.TO := fun σ H Q => ∃ w e s, IE G w e s σ H ∧ (F e s).holds (kO G w e σ H Q)
@[simp] def fNo : FO := fun _ s => .ok none s
@[simp] def fSome (Fa : FE) : FO := fun e s => (Fa e s).bind fun d s1 => match d with
  | .int i => .ok (some i) s1
  | _ => .bad
theorem PO_imp {a : Option Expr} {t t' : L2.TO} (h : PO X a t) (k : ∀ σ H Q, t' σ H Q → t σ H Q) : PO X a t' := ⟨fun pins s σ H Q I q => h.run pins s σ H Q I (k _ _ _ q)⟩
theorem do_none : PO X none (tO G fNo) := PO_imp po_none fun σ H Q ⟨w, e, s, I, h⟩ => h w H I .refl
theorem do_some {a : Expr} {Fa : FE} (ha : PE X a (tE G Fa)) : PO X (some a) (tO G (fSome Fa)) := PO_imp (po_some ha) fun σ H Q ⟨w, e, s, I, h⟩ => by
  refine ⟨w, e, s, I, holds_imp (holds_bind h) fun d s1 h1 w1 x H1 I1 x1 r1 => ?_⟩
  split at h1
  · rename_i i
    exact ⟨i, rp_int r1, h1 w1 H1 I1 x1⟩
  · exact h1.elim
def cutD (xs : List Dat) (lo hi : Option Int) : List Dat := (xs.drop (HT.sIx xs.length 0 lo)).take (HT.sIx xs.length xs.length hi - HT.sIx xs.length 0 lo)
@[simp] def gSl : Dat → Option Int → Option Int → Sto → Res Dat := fun d lo hi s => match d with
  | .list ds => .ok (.list (cutD ds lo hi)) s
  | .tuple ds => .ok (.tuple (cutD ds lo hi)) s
  | .str z => if z.length ≤ sizeLine then .ok (.str (cutS z lo hi)) s else .bad
  | .dict [(.none, .list ds)] => .ok (.list (cutD ds lo hi)) s
  | _ => .bad
@[simp] def fSl (Fa : FE) (Fl Fh : FO) : FE := fun e s => (Fa e s).bind fun d s1 => (Fl e s1).bind fun l s2 => (Fh e s2).bind fun u s3 => gSl d l u s3
def rSl (K : PySem.W.Frag) : V → Option Int → Option Int → Hp → VK → Prop := fun x lo hi H Q => rSlL K x lo hi H Q ∨ rSlA K x lo hi H Q ∨ rSlS x lo hi H Q
theorem sl_all : SlR X (rSl X.K) := sl_list.or (sl_tupA.or sl_str)
theorem cut_rp {K as F} {ds : List Dat} {vs : List V} (lo hi : Option Int) (r : RpL K as F ds vs) : RpL K as F (cutD ds lo hi) (cutV vs lo hi) := by
  unfold cutD cutV
  rw [r.length]
  exact (r.drop _).take _
theorem rpl_ints {K as F} : ∀ ns : List Int, RpL K as F (ns.map PyData.int) (ns.map V.int)
  | [] => RpL.nil
  | n :: ns => RpL.cons rp_i (rpl_ints ns)
theorem cut_whole {xs : List Dat} {lo hi : Option Int} (h1 : HT.sIx xs.length 0 lo = 0) (h2 : HT.sIx xs.length xs.length hi = xs.length) : cutD xs lo hi = xs := by
  unfold cutD
  rw [h1, h2]
  simp
theorem opSl {w : Wd} {e : Lcs} {s : Sto} {σ : L2.St} {H : Hp} {Q : VK} {d : Dat} {x : V} {lo hi : Option Int} (I : IE G w e s σ H) (r : Rp G.K w.as (Fz w H) d x) (h : (gSl d lo hi s).holds (kE G w e σ H Q)) : rSl G.K x lo hi H Q := by
  unfold gSl at h
  split at h
  · obtain ⟨p, xs, rfl, hp, rx⟩ := rp_list r
    exact .inl ⟨p, xs, rfl, .inl (.inl (Fz_sub _ _ hp)), fun l hl => new_list I (cut_rp lo hi rx) h hl⟩
  · rename_i ds
    obtain ⟨p, xs, rfl, hp, rx⟩ := rp_tuple r
    refine .inr (.inl ⟨p, xs, rfl, sqT_mono Fz_sub hp, fun z => ?_, fun _ l hl => new_tuple I (cut_rp lo hi rx) h hl⟩)
    refine flat_ok I h ?_
    rw [rx.length] at z
    rw [cut_whole z.1 z.2]
    exact r
  · split at h
    · rename_i c
      exact .inr (.inr ⟨_, rp_str r, c, flat_ok I h rp_s⟩)
    · exact h.elim
  · rename_i ds
    have r' : ∃ (a : Addr) (ns : List Int), x = .ref a ∧ ds = ns.map PyData.int ∧ SqL G.K (Fz w H) a (ns.map V.int) := by simpa [Rp] using r
    obtain ⟨p, ns, rfl, rfl, q⟩ := r'
    exact .inl ⟨p, _, rfl, sqL_mono Fz_sub q, fun l hl => new_list I (cut_rp lo hi (rpl_ints ns)) h hl⟩
  · exact h.elim
theorem de_slice {a : Expr} {lo hi : Option Expr} {pos p2 : Pos} {Fa : FE} {Fl Fh : FO} (hK : X.K = G.K) (ha : PE X a (tE G Fa)) (hl : PO X lo (tO G Fl)) (hh : PO X hi (tO G Fh)) : PE X (.Subscript a (.Slice lo hi none p2) pos) (tE G (fSl Fa Fl Fh)) :=
  PE_imp (pe_slice sl_all ha hl hh) fun σ H Q ⟨w, e, s, I, h⟩ => by
    refine ⟨w, e, s, I, holds_imp (holds_bind h) fun d s1 h1 w1 x H1 I1 x1 r1 => ?_⟩
    refine ⟨w1, e, s1, I1, holds_imp (holds_bind h1) fun l s2 h2 w2 H2 I2 x2 => ?_⟩
    refine ⟨w2, e, s2, I2, holds_imp (holds_bind h2) fun u s3 h3 w3 H3 I3 x3 => ?_⟩
    rw [hK]
    exact opSl I3 ((x2.trans x3).rp r1) (holds_imp h3 fun d s4 h4 => kE_ext (x1.trans (x2.trans x3)) h4)

/-! ### calls of built-ins -/
@[simp] def fCall (g : List Dat → Sto → Res Dat) (Fs : FA) : FE := fun e s => (Fs e s).bind fun ds s1 => g ds s1
theorem de_callB {x : Str} {p pos : Pos} {a : Expr} {es : List Expr} {id : String} {r : List V → Hp → VK → Prop} {g : List Dat → Sto → Res Dat} {Fs : FA} (hc : CallR X (.builtin id) r) (hg : CallD G r g) (hm : X.mg x = none) (ha : PA X (a :: es) (tA G Fs)) (hgl : Gl X x := by rfl)
    (hv : bootBuiltins x = some (.builtin id) := by decide +kernel) (hn : x ≠ "__name__" := by decide) (hdb : (x == ("__debug__" : Str)) = false := by decide)
    (he : starEach (a :: es) X.env = (false, eval a X.env) :: starEach es X.env := by rfl) (hpl : (backTo pos (starEach es X.env)).any (·.1) = false := by rfl) : PE X (.Call (.Name x p) (a :: es) [] pos) (tE G (fCall g Fs)) :=
  PE_imp (pe_callB hc hgl hm hv ha hn hdb he hpl) fun σ H Q ⟨w, e, s, I, h⟩ => ⟨w, e, s, I, holds_imp (holds_bind h) fun ds s1 h1 w1 vs H1 I1 x1 r1 => hg w1 e s1 σ H1 vs ds Q I1 r1 (holds_imp h1 fun d s2 h2 => kE_ext x1 h2)⟩
theorem de_callTy {x : Str} {p pos : Pos} {a : Expr} {es : List Expr} {id : String} {r : List V → Hp → VK → Prop} {g : List Dat → Sto → Res Dat} {Fs : FA} (hc : CallR X (.type id) r) (hg : CallD G r g) (hm : X.mg x = none) (ha : PA X (a :: es) (tA G Fs)) (hgl : Gl X x := by rfl)
    (hv : bootBuiltins x = some (.type id) := by decide +kernel) (hn : x ≠ "__name__" := by decide) (hdb : (x == ("__debug__" : Str)) = false := by decide)
    (he : starEach (a :: es) X.env = (false, eval a X.env) :: starEach es X.env := by rfl) (hpl : (backTo pos (starEach es X.env)).any (·.1) = false := by rfl) : PE X (.Call (.Name x p) (a :: es) [] pos) (tE G (fCall g Fs)) :=
  PE_imp (pe_callTy hc hgl hm hv ha hn hdb he hpl) fun σ H Q ⟨w, e, s, I, h⟩ => ⟨w, e, s, I, holds_imp (holds_bind h) fun ds s1 h1 w1 vs H1 I1 x1 r1 => hg w1 e s1 σ H1 vs ds Q I1 r1 (holds_imp h1 fun d s2 h2 => kE_ext x1 h2)⟩
theorem rpl1 {K as F} {d : Dat} {vs : List V} (r : RpL K as F [d] vs) : ∃ v, vs = [v] ∧ Rp K as F d v := by
  cases vs with
  | nil => simp [RpL] at r
  | cons v t =>
    cases t with
    | nil => exact ⟨v, rfl, by simpa [RpL] using r⟩
    | cons _ _ => simp [RpL] at r
theorem rpl2 {K as F} {d d2 : Dat} {vs : List V} (r : RpL K as F [d, d2] vs) : ∃ v v2, vs = [v, v2] ∧ Rp K as F d v ∧ Rp K as F d2 v2 := by
  cases vs with
  | nil => simp [RpL] at r
  | cons v t =>
    simp only [RpL] at r
    obtain ⟨v2, rfl, r2⟩ := rpl1 r.2
    exact ⟨v, v2, rfl, r.1, r2⟩
/-- abs -/
@[simp] def gAbs : List Dat → Sto → Res Dat := fun ds s => match ds with
  | [.int i] => .ok (.int (if i < 0 then -i else i)) s
  | _ => .bad
theorem cdAbs : CallD G (fun xs H Q => ∃ i, xs = [.int i] ∧ Q (.int (if i < 0 then -i else i)) H) gAbs := by
  intro w e s σ H xs ds Q I r h
  unfold gAbs at h
  split at h
  · obtain ⟨v, rfl, r1⟩ := rpl1 r
    exact ⟨_, by rw [rp_int r1], flat_ok I h rp_i⟩
  · exact h.elim
theorem de_abs {p pos : Pos} {a : Expr} {es : List Expr} {Fs : FA} (hm : X.mg "abs" = none) (ha : PA X (a :: es) (tA G Fs)) (hgl : Gl X "abs" := by rfl) (he : starEach (a :: es) X.env = (false, eval a X.env) :: starEach es X.env := by rfl) (hpl : (backTo pos (starEach es X.env)).any (·.1) = false := by rfl) :
    PE X (.Call (.Name "abs" p) (a :: es) [] pos) (tE G (fCall gAbs Fs)) := de_callB call_abs cdAbs hm ha (hgl := hgl) (he := he) (hpl := hpl)
/-- int(n), int(flag) -/
@[simp] def gInt : List Dat → Sto → Res Dat := fun ds s => match ds with
  | [.int i] => .ok (.int i) s
  | [.bool k] => .ok (.int (if k then 1 else 0)) s
  | _ => .bad
theorem cdInt : CallD G (fun xs H Q => (∃ i, xs = [V.int i] ∧ Q (.int i) H) ∨ ∃ k, xs = [V.bl k] ∧ Q (.int (if k then 1 else 0)) H) gInt := by
  intro w e s σ H xs ds Q I r h
  unfold gInt at h
  split at h
  · obtain ⟨v, rfl, r1⟩ := rpl1 r
    exact .inl ⟨_, by rw [rp_int r1], flat_ok I h rp_i⟩
  · obtain ⟨v, rfl, r1⟩ := rpl1 r
    exact .inr ⟨_, by rw [rp_bool r1], flat_ok I h rp_i⟩
  · exact h.elim
theorem de_intOf {p pos : Pos} {a : Expr} {es : List Expr} {Fs : FA} (hm : X.mg "int" = none) (ha : PA X (a :: es) (tA G Fs)) (hgl : Gl X "int" := by rfl) (he : starEach (a :: es) X.env = (false, eval a X.env) :: starEach es X.env := by rfl) (hpl : (backTo pos (starEach es X.env)).any (·.1) = false := by rfl) :
    PE X (.Call (.Name "int" p) (a :: es) [] pos) (tE G (fCall gInt Fs)) := de_callTy call_int1 cdInt hm ha (hgl := hgl) (he := he) (hpl := hpl)
/-- len -/
@[simp] def gLen : List Dat → Sto → Res Dat := fun ds s => match ds with
  | [.list xs] => .ok (.int xs.length) s
  | [.tuple xs] => .ok (.int xs.length) s
  | [.str z] => if z.length ≤ sizeLine then .ok (.int z.length) s else .bad
  | _ => .bad
theorem cdLen : CallD G (fun xs H Q => ∃ x n, xs = [x] ∧ LenV G.K x H n ∧ Q (.int n) H) gLen := by
  intro w e s σ H xs ds Q I r h
  unfold gLen at h
  split at h
  · obtain ⟨v, rfl, r1⟩ := rpl1 r
    obtain ⟨p, ys, rfl, hp, rx⟩ := rp_list r1
    refine ⟨.ref p, _, rfl, .inl ⟨ys, .inl (.inl (Fz_sub _ _ hp)), rfl⟩, ?_⟩
    rw [rx.length]
    exact flat_ok I h rp_i
  · obtain ⟨v, rfl, r1⟩ := rpl1 r
    obtain ⟨p, ys, rfl, hp, rx⟩ := rp_tuple r1
    refine ⟨.ref p, _, rfl, .inr ⟨ys, sqT_mono Fz_sub hp, rfl⟩, ?_⟩
    rw [rx.length]
    exact flat_ok I h rp_i
  · split at h
    · rename_i c
      obtain ⟨v, rfl, r1⟩ := rpl1 r
      rw [rp_str r1]
      exact ⟨_, _, rfl, ⟨c, rfl⟩, flat_ok I h rp_i⟩
    · exact h.elim
  · exact h.elim
theorem de_len {p pos : Pos} {a : Expr} {es : List Expr} {Fs : FA} (hK : X.K = G.K) (hm : X.mg "len" = none) (ha : PA X (a :: es) (tA G Fs)) (hgl : Gl X "len" := by rfl) (he : starEach (a :: es) X.env = (false, eval a X.env) :: starEach es X.env := by rfl) (hpl : (backTo pos (starEach es X.env)).any (·.1) = false := by rfl) :
    PE X (.Call (.Name "len" p) (a :: es) [] pos) (tE G (fCall gLen Fs)) := de_callB call_len (by rw [hK]; exact cdLen) hm ha (hgl := hgl) (he := he) (hpl := hpl)
/-- tuple(xs), list(xs) -/
@[simp] def gTupOf : List Dat → Sto → Res Dat := fun ds s => match ds with
  | [.list xs] => .ok (.tuple xs) s
  | [.tuple xs] => .ok (.tuple xs) s
  | _ => .bad
theorem cdTup : CallD G (fun xs H Q => ∃ p ys, xs = [V.ref p] ∧ ((SqL G.K H p ys ∧ ∀ l, H l = none → Q (.ref l) (upd H l (.tup ys))) ∨ (SqT G.K H p ys ∧ Q (.ref p) H))) gTupOf := by
  intro w e s σ H xs ds Q I r h
  unfold gTupOf at h
  split at h
  · obtain ⟨v, rfl, r1⟩ := rpl1 r
    obtain ⟨p, ys, rfl, hp, rx⟩ := rp_list r1
    exact ⟨p, ys, rfl, .inl ⟨.inl (.inl (Fz_sub _ _ hp)), fun l hl => new_tuple I rx h hl⟩⟩
  · obtain ⟨v, rfl, r1⟩ := rpl1 r
    obtain ⟨p, ys, rfl, hp, rx⟩ := rp_tuple r1
    exact ⟨p, ys, rfl, .inr ⟨sqT_mono Fz_sub hp, flat_ok I h r1⟩⟩
  · exact h.elim
theorem de_tupOf {p pos : Pos} {a : Expr} {es : List Expr} {Fs : FA} (hK : X.K = G.K) (hm : X.mg "tuple" = none) (ha : PA X (a :: es) (tA G Fs)) (hgl : Gl X "tuple" := by rfl) (he : starEach (a :: es) X.env = (false, eval a X.env) :: starEach es X.env := by rfl) (hpl : (backTo pos (starEach es X.env)).any (·.1) = false := by rfl) :
    PE X (.Call (.Name "tuple" p) (a :: es) [] pos) (tE G (fCall gTupOf Fs)) := de_callTy call_tuple_of (by rw [hK]; exact cdTup) hm ha (hgl := hgl) (he := he) (hpl := hpl)
@[simp] def gLstOf : List Dat → Sto → Res Dat := fun ds s => match ds with
  | [.list xs] => .ok (.list xs) s
  | [.tuple xs] => .ok (.list xs) s
  | _ => .bad
theorem cdLst : CallD G (fun xs H Q => ∃ p ys, xs = [V.ref p] ∧ (SqL G.K H p ys ∨ SqT G.K H p ys) ∧ ∀ l, H l = none → Q (.ref l) (upd H l (.lst ys))) gLstOf := by
  intro w e s σ H xs ds Q I r h
  unfold gLstOf at h
  split at h
  · obtain ⟨v, rfl, r1⟩ := rpl1 r
    obtain ⟨p, ys, rfl, hp, rx⟩ := rp_list r1
    exact ⟨p, ys, rfl, .inl (.inl (.inl (Fz_sub _ _ hp))), fun l hl => new_list I rx h hl⟩
  · obtain ⟨v, rfl, r1⟩ := rpl1 r
    obtain ⟨p, ys, rfl, hp, rx⟩ := rp_tuple r1
    exact ⟨p, ys, rfl, .inr (sqT_mono Fz_sub hp), fun l hl => new_list I rx h hl⟩
  · exact h.elim
theorem de_lstOf {p pos : Pos} {a : Expr} {es : List Expr} {Fs : FA} (hK : X.K = G.K) (hm : X.mg "list" = none) (ha : PA X (a :: es) (tA G Fs)) (hgl : Gl X "list" := by rfl) (he : starEach (a :: es) X.env = (false, eval a X.env) :: starEach es X.env := by rfl) (hpl : (backTo pos (starEach es X.env)).any (·.1) = false := by rfl) :
    PE X (.Call (.Name "list" p) (a :: es) [] pos) (tE G (fCall gLstOf Fs)) := de_callTy call_list_of (by rw [hK]; exact cdLst) hm ha (hgl := hgl) (he := he) (hpl := hpl)
/-- max, min of a list of ints; all, any of a list of truth values; sum -/
@[simp] def ints? : List Dat → Option (List Int)
  | [] => some []
  | .int i :: r => (ints? r).map (i :: ·)
  | _ :: _ => none
@[simp] def bools? : List Dat → Option (List Bool)
  | [] => some []
  | .bool i :: r => (bools? r).map (i :: ·)
  | _ :: _ => none
theorem ints_vals {K as F} : ∀ {ds : List Dat} {ns : List Int} {vs : List V}, ints? ds = some ns → RpL K as F ds vs → vs = ns.map V.int
  | [], _, [], h, _ => by simp [ints?] at h; subst h; rfl
  | d :: ds, ns, v :: vs, h, r => by
    simp only [RpL] at r
    cases d with
    | int i =>
      simp only [ints?, Option.map_eq_some_iff] at h
      obtain ⟨m, hm, rfl⟩ := h
      rw [rp_int r.1, ints_vals hm r.2]; rfl
    | _ => simp [ints?] at h
  | [], _, _ :: _, _, h => by simp [RpL] at h
  | _ :: _, _, [], _, h => by simp [RpL] at h
theorem bools_vals {K as F} : ∀ {ds : List Dat} {ns : List Bool} {vs : List V}, bools? ds = some ns → RpL K as F ds vs → vs = ns.map V.bl
  | [], _, [], h, _ => by simp [bools?] at h; subst h; rfl
  | d :: ds, ns, v :: vs, h, r => by
    simp only [RpL] at r
    cases d with
    | bool i =>
      simp only [bools?, Option.map_eq_some_iff] at h
      obtain ⟨m, hm, rfl⟩ := h
      rw [rp_bool r.1, bools_vals hm r.2]; rfl
    | _ => simp [bools?] at h
  | [], _, _ :: _, _, h => by simp [RpL] at h
  | _ :: _, _, [], _, h => by simp [RpL] at h
def maxL : List Int → Int
  | [] => 0
  | [a] => a
  | a :: b :: r => if a < maxL (b :: r) then maxL (b :: r) else a
def minL : List Int → Int
  | [] => 0
  | [a] => a
  | a :: b :: r => if minL (b :: r) < a then minL (b :: r) else a
theorem maxL_is : ∀ {ns : List Int} {m : Int}, m ∈ ns → (∀ y, y ∈ ns → y ≤ m) → maxL ns = m
  | [a], m, h, _ => by simp at h; simp [maxL, h]
  | a :: b :: r, m, h, k => by
    unfold maxL
    have ha := k a (by simp)
    by_cases e : m ∈ b :: r
    · have ih := maxL_is (ns := b :: r) e fun y hy => k y (List.mem_cons_of_mem _ hy)
      rw [ih]; split <;> omega
    · have em : m = a := by
        rcases List.mem_cons.mp h with q | q
        · exact q
        · exact absurd q e
      subst em
      split
      · rename_i z
        have : maxL (b :: r) ∈ b :: r := by
          have go : ∀ (l : List Int) (c : Int), maxL (c :: l) ∈ c :: l := by
            intro l
            induction l with
            | nil => intro c; simp [maxL]
            | cons d l ih =>
              intro c
              unfold maxL
              split
              · exact List.mem_cons_of_mem _ (ih d)
              · simp
          exact go r b
        have := k _ (List.mem_cons_of_mem _ this)
        omega
      · rfl
theorem minL_is : ∀ {ns : List Int} {m : Int}, m ∈ ns → (∀ y, y ∈ ns → m ≤ y) → minL ns = m
  | [a], m, h, _ => by simp at h; simp [minL, h]
  | a :: b :: r, m, h, k => by
    unfold minL
    have ha := k a (by simp)
    by_cases e : m ∈ b :: r
    · have ih := minL_is (ns := b :: r) e fun y hy => k y (List.mem_cons_of_mem _ hy)
      rw [ih]; split <;> omega
    · have em : m = a := by
        rcases List.mem_cons.mp h with q | q
        · exact q
        · exact absurd q e
      subst em
      split
      · rename_i z
        have : minL (b :: r) ∈ b :: r := by
          have go : ∀ (l : List Int) (c : Int), minL (c :: l) ∈ c :: l := by
            intro l
            induction l with
            | nil => intro c; simp [minL]
            | cons d l ih =>
              intro c
              unfold minL
              split
              · exact List.mem_cons_of_mem _ (ih d)
              · simp
          exact go r b
        have := k _ (List.mem_cons_of_mem _ this)
        omega
      · rfl
@[simp] def gMax : List Dat → Sto → Res Dat := fun ds s => match ds with
  | [.list xs] => match ints? xs with
    | some ns => if 0 < ns.length then .ok (.int (maxL ns)) s else .bad
    | none => .bad
  | _ => .bad
@[simp] def gMin : List Dat → Sto → Res Dat := fun ds s => match ds with
  | [.list xs] => match ints? xs with
    | some ns => if 0 < ns.length then .ok (.int (minL ns)) s else .bad
    | none => .bad
  | _ => .bad
@[simp] def gSum : List Dat → Sto → Res Dat := fun ds s => match ds with
  | [.list xs] => match ints? xs with
    | some ns => .ok (.int ns.sum) s
    | none => .bad
  | [.tuple xs] => match ints? xs with
    | some ns => .ok (.int ns.sum) s
    | none => .bad
  | _ => .bad
@[simp] def gAll : List Dat → Sto → Res Dat := fun ds s => match ds with
  | [.list xs] => match bools? xs with
    | some ns => .ok (.bool (ns.all id)) s
    | none => .bad
  | _ => .bad
@[simp] def gAny : List Dat → Sto → Res Dat := fun ds s => match ds with
  | [.list xs] => match bools? xs with
    | some ns => .ok (.bool (ns.any id)) s
    | none => .bad
  | _ => .bad
theorem cdMax : CallD G (rMax G.K) gMax := by
  intro w e s σ H xs ds Q I r h
  unfold gMax at h
  split at h
  · split at h
    · rename_i ns hns
      split at h
      · rename_i c
        obtain ⟨v, rfl, r1⟩ := rpl1 r
        obtain ⟨p, ys, rfl, hp, rx⟩ := rp_list r1
        have e := ints_vals hns rx
        subst e
        exact ⟨p, ns, rfl, .inl (.inl (Fz_sub _ _ hp)), c, fun m hm hle => by
          have := flat_ok I h rp_i
          rw [maxL_is hm hle] at this
          exact this⟩
      · exact h.elim
    · exact h.elim
  · exact h.elim
theorem cdMin : CallD G (rMin G.K) gMin := by
  intro w e s σ H xs ds Q I r h
  unfold gMin at h
  split at h
  · split at h
    · rename_i ns hns
      split at h
      · rename_i c
        obtain ⟨v, rfl, r1⟩ := rpl1 r
        obtain ⟨p, ys, rfl, hp, rx⟩ := rp_list r1
        have e := ints_vals hns rx
        subst e
        exact ⟨p, ns, rfl, .inl (.inl (Fz_sub _ _ hp)), c, fun m hm hle => by
          have := flat_ok I h rp_i
          rw [minL_is hm hle] at this
          exact this⟩
      · exact h.elim
    · exact h.elim
  · exact h.elim
theorem cdAll : CallD G (rAll G.K) gAll := by
  intro w e s σ H xs ds Q I r h
  unfold gAll at h
  split at h
  · split at h
    · rename_i ns hns
      obtain ⟨v, rfl, r1⟩ := rpl1 r
      obtain ⟨p, ys, rfl, hp, rx⟩ := rp_list r1
      have e := bools_vals hns rx
      subst e
      exact ⟨p, ns, rfl, .inl (.inl (Fz_sub _ _ hp)), flat_ok I h rp_b⟩
    · exact h.elim
  · exact h.elim
theorem cdAny : CallD G (rAny G.K) gAny := by
  intro w e s σ H xs ds Q I r h
  unfold gAny at h
  split at h
  · split at h
    · rename_i ns hns
      obtain ⟨v, rfl, r1⟩ := rpl1 r
      obtain ⟨p, ys, rfl, hp, rx⟩ := rp_list r1
      have e := bools_vals hns rx
      subst e
      exact ⟨p, ns, rfl, .inl (.inl (Fz_sub _ _ hp)), flat_ok I h rp_b⟩
    · exact h.elim
  · exact h.elim
section
variable {p pos : Pos} {a : Expr} {es : List Expr} {Fs : FA}
theorem de_max (hc : X.calm = true) (hK : X.K = G.K) (hm : X.mg "max" = none) (ha : PA X (a :: es) (tA G Fs)) (hgl : Gl X "max" := by rfl) (he : starEach (a :: es) X.env = (false, eval a X.env) :: starEach es X.env := by rfl) (hpl : (backTo pos (starEach es X.env)).any (·.1) = false := by rfl) :
    PE X (.Call (.Name "max" p) (a :: es) [] pos) (tE G (fCall gMax Fs)) := de_callB (cr_max hc) (by rw [hK]; exact cdMax) hm ha (hgl := hgl) (he := he) (hpl := hpl)
theorem de_min (hc : X.calm = true) (hK : X.K = G.K) (hm : X.mg "min" = none) (ha : PA X (a :: es) (tA G Fs)) (hgl : Gl X "min" := by rfl) (he : starEach (a :: es) X.env = (false, eval a X.env) :: starEach es X.env := by rfl) (hpl : (backTo pos (starEach es X.env)).any (·.1) = false := by rfl) :
    PE X (.Call (.Name "min" p) (a :: es) [] pos) (tE G (fCall gMin Fs)) := de_callB (cr_min hc) (by rw [hK]; exact cdMin) hm ha (hgl := hgl) (he := he) (hpl := hpl)
theorem de_all (hc : X.calm = true) (hK : X.K = G.K) (hm : X.mg "all" = none) (ha : PA X (a :: es) (tA G Fs)) (hgl : Gl X "all" := by rfl) (he : starEach (a :: es) X.env = (false, eval a X.env) :: starEach es X.env := by rfl) (hpl : (backTo pos (starEach es X.env)).any (·.1) = false := by rfl) :
    PE X (.Call (.Name "all" p) (a :: es) [] pos) (tE G (fCall gAll Fs)) := de_callB (cr_all hc) (by rw [hK]; exact cdAll) hm ha (hgl := hgl) (he := he) (hpl := hpl)
theorem de_any (hc : X.calm = true) (hK : X.K = G.K) (hm : X.mg "any" = none) (ha : PA X (a :: es) (tA G Fs)) (hgl : Gl X "any" := by rfl) (he : starEach (a :: es) X.env = (false, eval a X.env) :: starEach es X.env := by rfl) (hpl : (backTo pos (starEach es X.env)).any (·.1) = false := by rfl) :
    PE X (.Call (.Name "any" p) (a :: es) [] pos) (tE G (fCall gAny Fs)) := de_callB (cr_any hc) (by rw [hK]; exact cdAny) hm ha (hgl := hgl) (he := he) (hpl := hpl)
end
end
end DL

namespace DL
open PySem PySem.Spec PyProof.Rows L2
section
variable {X : Cx} {G : Gx}

/-! ### how the world goes on -/
section
variable {w w' : Wd} {e e2 : Lcs} {s s' : Sto} {σ σ2 : L2.St} {H H' : Hp}
/-- the locals stand, where the rest went on -/
theorem IE.re (I : IE G w e s σ H) (x : EExt w H w' H') (J : IE G w' e2 s' σ2 H') : IE G w' e s' σ H' := by
  refine ⟨I.len, fun i d h => ?_, fun i ds h => ?_, I.inj, J.slen, J.cells, J.nd, J.dis, J.beg, J.o0, J.there, J.keep, J.cfresh⟩
  · obtain ⟨v, h1, h2⟩ := I.slot i d h
    exact ⟨v, h1, x.rp h2⟩
  · obtain ⟨p, vs, h1, h2, h3, h4, h5, h6⟩ := I.own i ds h
    exact ⟨p, vs, h1, by rw [x.ow]; exact h2, h3, h4, by rw [x.own p h2]; exact h5, x.rpl h6⟩
theorem IE.fresh0 (I : IE G w e s σ H) {p : Addr} (hp : H p = none) : G.H0 p = none := by
  cases q : G.H0 p with
  | none => rfl
  | some o =>
    by_cases h : p ∈ G.as0
    · exact absurd hp (I.cellThere (I.beg.mem h))
    · have := I.keep p o q h
      rw [hp] at this; cases this
theorem IE.freshO (I : IE G w e s σ H) {p : Addr} (hp : H p = none) : ¬ w.ow p := fun h => I.there p h hp
theorem IE.freshO0 (I : IE G w e s σ H) {p : Addr} (hp : H p = none) : ¬ G.O0 p := fun h => I.freshO hp (I.o0 p h)
theorem IE.freshA (I : IE G w e s σ H) {p : Addr} (hp : H p = none) : p ∉ w.as := fun h => I.cellThere h hp
/-- no local's own list stands at p -/
def Lone (e : Lcs) (σ : L2.St) (p : Addr) : Prop := ∀ (i : Nat) ds, e[i]? = some (.ow ds) → σ[i]? ≠ some (some (.ref p))
theorem IE.lone (I : IE G w e s σ H) {p : Addr} (hp : H p = none) : Lone e σ p := fun i ds h h2 => by
  obtain ⟨q, vs, h1, _, _, _, h5, _⟩ := I.own i ds h
  rw [h2] at h1; cases h1
  rw [hp] at h5; cases h5
/-- one more place of one's own -/
def Wd.plus (w : Wd) (p : Addr) : Wd := ⟨w.as, fun a => w.ow a ∨ a = p⟩
theorem Fz_plus {p : Addr} {o : HO} (hp : H p = none) : Fz (w.plus p) (upd H p o) = Fz w H := by
  funext a
  unfold Fz
  by_cases ha : a = p
  · subst ha
    rw [if_pos (.inr (.inr rfl))]
    split
    · rfl
    · rw [hp]
  · by_cases h : a ∈ w.as ∨ w.ow a
    · rw [if_pos h, if_pos (h.elim .inl fun q => .inr (.inl q))]
    · rw [if_neg h, if_neg (by rintro (q | q | q); exact h (.inl q); exact h (.inr q); exact ha q), upd_ne ha]
theorem IE.plus (I : IE G w e s σ H) {p : Addr} {o : HO} (hp : H p = none) : IE G (w.plus p) e s σ (upd H p o) := by
  have ef : Fz (w.plus p) (upd H p o) = Fz w H := Fz_plus hp
  have hx : ∀ {a : Addr} {u : HO}, H a = some u → upd H p o a = some u := fun {a u} h => by rw [upd_ne (ne_of_none h hp)]; exact h
  refine ⟨I.len, fun i d h => ?_, fun i ds h => ?_, I.inj, I.slen, fun n ds h => ?_, I.nd, fun a ha => ?_, I.beg, fun a ha => .inl (I.o0 a ha), fun a h => ?_, fun a u h h' => hx (I.keep a u h h'), I.cfresh⟩
  · obtain ⟨v, h1, h2⟩ := I.slot i d h
    exact ⟨v, h1, by rw [ef]; exact h2⟩
  · obtain ⟨q, vs, h1, h2, h3, h4, h5, h6⟩ := I.own i ds h
    exact ⟨q, vs, h1, .inl h2, h3, h4, hx h5, by rw [ef]; exact h6⟩
  · obtain ⟨a, vs, h1, h2, h3⟩ := I.cells n ds h
    exact ⟨a, vs, h1, hx h2, by rw [ef]; exact h3⟩
  · rintro (q | q)
    · exact I.dis a ha q
    · subst q
      exact I.freshA hp ha
  · rcases h with h | h
    · cases z : H a with
      | none => exact absurd z (I.there a h)
      | some u => rw [hx z]; simp
    · subst h; rw [upd_same]; simp
theorem plus_f {p : Addr} {o : HO} (hp : H p = none) : FExt w H (w.plus p) (upd H p o) := ⟨.refl _, by rw [Fz_plus hp]; exact .refl _⟩
theorem Fz_own {p : Addr} {o : HO} (hp : w.ow p) : Fz w (upd H p o) = Fz w H := by
  funext a
  unfold Fz
  by_cases h : a ∈ w.as ∨ w.ow a
  · rw [if_pos h, if_pos h]
  · rw [if_neg h, if_neg h]
    exact upd_ne fun z => by subst z; exact h (.inr hp)
/-- a place of one's own that no local holds is written -/
theorem IE.write (I : IE G w e s σ H) {p : Addr} {o : HO} (hp : w.ow p) (h0 : G.H0 p = none) (hl : Lone e σ p) : IE G w e s σ (upd H p o) := by
  have ef : Fz w (upd H p o) = Fz w H := Fz_own hp
  refine ⟨I.len, fun i d h => ?_, fun i ds h => ?_, I.inj, I.slen, fun n ds h => ?_, I.nd, I.dis, I.beg, I.o0, fun a h => ?_, fun a u h h' => ?_, I.cfresh⟩
  · obtain ⟨v, h1, h2⟩ := I.slot i d h
    exact ⟨v, h1, by rw [ef]; exact h2⟩
  · obtain ⟨q, vs, h1, h2, h3, h4, h5, h6⟩ := I.own i ds h
    have : q ≠ p := fun z => by subst z; exact hl i ds h h1
    exact ⟨q, vs, h1, h2, h3, h4, by rw [upd_ne this]; exact h5, by rw [ef]; exact h6⟩
  · obtain ⟨a, vs, h1, h2, h3⟩ := I.cells n ds h
    have : a ≠ p := fun z => by subst z; exact I.dis a (List.mem_of_getElem? h1) hp
    exact ⟨a, vs, h1, by rw [upd_ne this]; exact h2, by rw [ef]; exact h3⟩
  · by_cases z : a = p
    · subst z; rw [upd_same]; simp
    · rw [upd_ne z]; exact I.there a h
  · have : a ≠ p := fun z => by subst z; rw [h0] at h; cases h
    rw [upd_ne this]
    exact I.keep a u h h'
theorem write_f {p : Addr} {o : HO} (hp : w.ow p) : FExt w H w (upd H p o) := ⟨.refl _, by rw [Fz_own hp]; exact .refl _⟩
/-- a local's own list is written -/
theorem IE.writeOwn (I : IE G w e s σ H) {p : Addr} {vs : List V} {i : Nat} {ds ds' : List Dat} (he : e[i]? = some (.ow ds)) (hσ : σ[i]? = some (some (.ref p))) (r : RpL G.K w.as (Fz w H) ds' vs) : IE G w (e.set i (.ow ds')) s σ (upd H p (.lst vs)) := by
  obtain ⟨q0, vs0, g1, g2, g3, g4, g5, g6⟩ := I.own i ds he
  rw [hσ] at g1; cases g1
  have hi : i < e.length := (List.getElem?_eq_some_iff.mp he).1
  have ef : Fz w (upd H p (.lst vs)) = Fz w H := Fz_own g2
  have inj' : ∀ (j : Nat) es, e[j]? = some (.ow es) → σ[j]? = some (some (.ref p)) → j = i := fun j es h1 h2 => I.inj j i p es ds h1 he h2 hσ
  refine ⟨by rw [List.length_set]; exact I.len, fun j d h => ?_, fun j es h => ?_, fun a b q es fs h1 h2 h3 h4 => ?_, I.slen, fun n es h => ?_, I.nd, I.dis, I.beg, I.o0, fun a h => ?_, fun a u h h' => ?_, I.cfresh⟩
  · by_cases z : i = j
    · subst z; rw [List.getElem?_set_self hi] at h; cases h
    · rw [List.getElem?_set_ne z] at h
      obtain ⟨v, h1, h2⟩ := I.slot j d h
      exact ⟨v, h1, by rw [ef]; exact h2⟩
  · by_cases z : i = j
    · subst z
      rw [List.getElem?_set_self hi] at h; cases h
      exact ⟨p, vs, hσ, g2, g3, g4, upd_same, by rw [ef]; exact r⟩
    · rw [List.getElem?_set_ne z] at h
      obtain ⟨q, us, h1, h2, h3, h4, h5, h6⟩ := I.own j es h
      have : q ≠ p := fun y => by subst y; exact z (inj' j es h h1).symm
      exact ⟨q, us, h1, h2, h3, h4, by rw [upd_ne this]; exact h5, by rw [ef]; exact h6⟩
  · have k : ∀ (j : Nat) es, (e.set i (.ow ds'))[j]? = some (.ow es) → ∃ fs, e[j]? = some (.ow fs) := fun j es h => by
      by_cases z : i = j
      · subst z; exact ⟨ds, he⟩
      · rw [List.getElem?_set_ne z] at h; exact ⟨es, h⟩
    obtain ⟨es', k1⟩ := k a es h1
    obtain ⟨fs', k2⟩ := k b fs h2
    exact I.inj a b q es' fs' k1 k2 h3 h4
  · obtain ⟨a, us, h1, h2, h3⟩ := I.cells n es h
    have : a ≠ p := fun z => by subst z; exact I.dis a (List.mem_of_getElem? h1) g2
    exact ⟨a, us, h1, by rw [upd_ne this]; exact h2, by rw [ef]; exact h3⟩
  · by_cases z : a = p
    · subst z; rw [upd_same]; simp
    · rw [upd_ne z]; exact I.there a h
  · have : a ≠ p := fun z => by subst z; rw [g3] at h; cases h
    rw [upd_ne this]
    exact I.keep a u h h'
/-- a local is stored -/
theorem IE.set (I : IE G w e s σ H) {i : Nat} {d : Dat} {v : V} (hi : i < e.length) (r : Rp G.K w.as (Fz w H) d v) : IE G w (e.set i (.fz d)) s (σ.set i (some v)) H := by
  have hσ : i < σ.length := by rw [← I.len]; exact hi
  have ne_of : ∀ {j : Nat} {es : List Dat}, (e.set i (.fz d))[j]? = some (.ow es) → i ≠ j ∧ e[j]? = some (.ow es) := fun {j es} h => by
    by_cases z : i = j
    · subst z; rw [List.getElem?_set_self hi] at h; cases h
    · rw [List.getElem?_set_ne z] at h; exact ⟨z, h⟩
  refine ⟨by rw [List.length_set, List.length_set]; exact I.len, fun j d' h => ?_, fun j es h => ?_, fun a b q es fs h1 h2 h3 h4 => ?_, I.slen, I.cells, I.nd, I.dis, I.beg, I.o0, I.there, I.keep, I.cfresh⟩
  · by_cases z : i = j
    · subst z
      rw [List.getElem?_set_self hi] at h; cases h
      exact ⟨v, List.getElem?_set_self hσ, r⟩
    · rw [List.getElem?_set_ne z] at h ⊢
      exact I.slot j d' h
  · obtain ⟨z, h'⟩ := ne_of h
    rw [List.getElem?_set_ne z]
    exact I.own j es h'
  · obtain ⟨z1, k1⟩ := ne_of h1
    obtain ⟨z2, k2⟩ := ne_of h2
    rw [List.getElem?_set_ne z1] at h3
    rw [List.getElem?_set_ne z2] at h4
    exact I.inj a b q es fs k1 k2 h3 h4
/-- a list of one's own is given to a local -/
theorem IE.setOwn (I : IE G w e s σ H) {i : Nat} {ds : List Dat} {p : Addr} {vs : List V} (hi : i < e.length) (hp : w.ow p) (h0 : G.H0 p = none) (h1 : ¬ G.O0 p) (hl : Lone e σ p) (hH : H p = some (.lst vs)) (r : RpL G.K w.as (Fz w H) ds vs) :
    IE G w (e.set i (.ow ds)) s (σ.set i (some (.ref p))) H := by
  have hσ : i < σ.length := by rw [← I.len]; exact hi
  refine ⟨by rw [List.length_set, List.length_set]; exact I.len, fun j d' h => ?_, fun j es h => ?_, fun a b q es fs k1 k2 k3 k4 => ?_, I.slen, I.cells, I.nd, I.dis, I.beg, I.o0, I.there, I.keep, I.cfresh⟩
  · by_cases z : i = j
    · subst z; rw [List.getElem?_set_self hi] at h; cases h
    · rw [List.getElem?_set_ne z] at h ⊢
      exact I.slot j d' h
  · by_cases z : i = j
    · subst z
      rw [List.getElem?_set_self hi] at h; cases h
      exact ⟨p, vs, List.getElem?_set_self hσ, hp, h0, h1, hH, r⟩
    · rw [List.getElem?_set_ne z] at h ⊢
      exact I.own j es h
  · by_cases za : i = a
    · subst za
      by_cases zb : i = b
      · exact zb
      · rw [List.getElem?_set_ne zb] at k2 k4
        rw [List.getElem?_set_self hσ] at k3
        cases k3
        exact absurd k4 (hl b fs k2)
    · by_cases zb : i = b
      · subst zb
        rw [List.getElem?_set_ne za] at k1 k3
        rw [List.getElem?_set_self hσ] at k4
        cases k4
        exact absurd k3 (hl a es k1)
      · rw [List.getElem?_set_ne za] at k1 k3
        rw [List.getElem?_set_ne zb] at k2 k4
        exact I.inj a b q es fs k1 k2 k3 k4
/-- a local's own list is no one's own any more -/
@[simp] def frz (i : Nat) (e : Lcs) : Lcs := match e[i]? with
  | some (.ow ds) => e.set i (.fz (.list ds))
  | _ => e
open Classical in
theorem IE.freeze (I : IE G w e s σ H) (i : Nat) : ∃ w', IE G w' (frz i e) s σ H ∧ FExt w H w' H := by
  unfold frz
  split
  · rename_i ds he
    obtain ⟨p, vs, h1, h2, h3, h4, h5, h6⟩ := I.own i ds he
    have hi : i < e.length := (List.getElem?_eq_some_iff.mp he).1
    have sm : Same (Fz w H) (Fz ⟨w.as, fun a => w.ow a ∧ a ≠ p⟩ H) := fun a o h => by
      obtain ⟨k1, k2, k3⟩ := Fz_get h
      exact Fz_of k1 k2 fun q => k3 q.1
    have pa : p ∉ w.as := fun h => I.dis p h h2
    refine ⟨⟨w.as, fun a => w.ow a ∧ a ≠ p⟩, ⟨by rw [List.length_set]; exact I.len, fun j d h => ?_, fun j es h => ?_, fun a b q es fs k1 k2 k3 k4 => ?_, I.slen, fun n es h => ?_, I.nd, fun a ha q => I.dis a ha q.1, I.beg, fun a ha => ⟨I.o0 a ha, fun z => by subst z; exact h4 ha⟩, fun a h => I.there a h.1, I.keep, I.cfresh⟩, ⟨.refl _, sm⟩⟩
    · by_cases z : i = j
      · subst z
        rw [List.getElem?_set_self hi] at h; cases h
        refine ⟨.ref p, h1, ?_⟩
        simp only [Rp]
        exact ⟨p, vs, rfl, Fz_of h5 pa fun q => q.2 rfl, RpL.mono (.refl _) sm _ _ h6⟩
      · rw [List.getElem?_set_ne z] at h
        obtain ⟨v, k1, k2⟩ := I.slot j d h
        exact ⟨v, k1, Rp.mono (.refl _) sm _ _ k2⟩
    · by_cases z : i = j
      · subst z; rw [List.getElem?_set_self hi] at h; cases h
      · rw [List.getElem?_set_ne z] at h
        obtain ⟨q, us, k1, k2, k3, k4, k5, k6⟩ := I.own j es h
        have : q ≠ p := fun y => by subst y; exact z (I.inj i j q ds es he h h1 k1)
        exact ⟨q, us, k1, ⟨k2, this⟩, k3, k4, k5, RpL.mono (.refl _) sm _ _ k6⟩
    · have k : ∀ {j : Nat} {es}, (e.set i (.fz (.list ds)))[j]? = some (.ow es) → e[j]? = some (.ow es) := fun {j es} h => by
        by_cases z : i = j
        · subst z; rw [List.getElem?_set_self hi] at h; cases h
        · rw [List.getElem?_set_ne z] at h; exact h
      exact I.inj a b q es fs (k k1) (k k2) k3 k4
    · obtain ⟨a, us, k1, k2, k3⟩ := I.cells n es h
      exact ⟨a, us, k1, k2, RpL.mono (.refl _) sm _ _ k3⟩
  · exact ⟨w, I, .refl⟩
end

/-! ### statements -/
/-- wanted behind a statement -/
def kS (G : Gx) (w : Wd) (H : Hp) (D : Ends) : Flo → Prop
  | .bad => False
  | .nx e' s' => ∀ w' σ' H', IE G w' e' s' σ' H' → FExt w H w' H' → D.nx σ' H'
  | .bk e' s' => ∀ w' σ' H', IE G w' e' s' σ' H' → FExt w H w' H' → D.bk σ' H'
  | .ct e' s' => ∀ w' σ' H', IE G w' e' s' σ' H' → FExt w H w' H' → D.ct σ' H'
  | .rt d s' => ∀ w' e' σ' v H', IE G w' e' s' σ' H' → FExt w H w' H' → Rp G.K w'.as (Fz w' H') d v → D.rt v H'
def tS (G : Gx) (F : FS) : TS := fun D σ H => ∃ w e s, IE G w e s σ H ∧ kS G w H D (F e s)
theorem kS_ext {w w1 : Wd} {H H1 : Hp} {D : Ends} {f : Flo} (x : FExt w H w1 H1) (h : kS G w H D f) : kS G w1 H1 D f := by
  cases f with
  | bad => exact h
  | nx e s => exact fun w' σ' H' I x' => h w' σ' H' I (x.trans x')
  | bk e s => exact fun w' σ' H' I x' => h w' σ' H' I (x.trans x')
  | ct e s => exact fun w' σ' H' I x' => h w' σ' H' I (x.trans x')
  | rt d s => exact fun w' e' σ' v H' I x' => h w' e' σ' v H' I (x.trans x')
/-- an expression's outcome handed to a statement's end -/
def Res.flo {α : Type} (r : Res α) (f : α → Sto → Flo) : Flo := match r with
  | .bad => .bad
  | .ok a s => f a s
@[simp] theorem flo_ok {α : Type} (a : α) (s : Sto) (f : α → Sto → Flo) : (Res.ok a s).flo f = f a s := rfl
@[simp] theorem flo_bad {α : Type} (f : α → Sto → Flo) : (Res.bad : Res α).flo f = .bad := rfl
theorem flo_holds {α : Type} {r : Res α} {f : α → Sto → Flo} {w : Wd} {H : Hp} {D : Ends} (h : kS G w H D (r.flo f)) : r.holds fun a s => kS G w H D (f a s) := by
  cases r with
  | bad => exact h
  | ok a s => exact h
def Flo.seq (f : Flo) (k : Lcs → Sto → Flo) : Flo := match f with
  | .nx e s => k e s
  | f => f
@[simp] theorem seq_nx (e : Lcs) (s : Sto) (k : Lcs → Sto → Flo) : (Flo.nx e s).seq k = k e s := rfl
@[simp] theorem seq_rt (d : Dat) (s : Sto) (k : Lcs → Sto → Flo) : (Flo.rt d s).seq k = .rt d s := rfl
@[simp] theorem seq_bk (e : Lcs) (s : Sto) (k : Lcs → Sto → Flo) : (Flo.bk e s).seq k = .bk e s := rfl
@[simp] theorem seq_ct (e : Lcs) (s : Sto) (k : Lcs → Sto → Flo) : (Flo.ct e s).seq k = .ct e s := rfl
@[simp] theorem seq_bad (k : Lcs → Sto → Flo) : (Flo.bad).seq k = .bad := rfl
@[simp] def sNext : FS := fun e s => .nx e s
@[simp] def sSeq (F K : FS) : FS := fun e s => (F e s).seq K
@[simp] def sBreak : FS := fun e s => .bk e s
@[simp] def sCont : FS := fun e s => .ct e s
@[simp] def sDrop (Fa : FE) : FS := fun e s => (Fa e s).flo fun _ s' => .nx e s'
@[simp] def sRet (Fa : FE) : FS := fun e s => (Fa e s).flo fun d s' => .rt d s'
@[simp] def sRetN : FS := fun _ s => .rt .none s
@[simp] def sIf (Fc : FT) (F K : FS) : FS := fun e s => (Fc e s).flo fun c s' => if c then F e s' else K e s'
section
variable {st : Stmt} {rest : List Stmt} {a b : List Stmt} {F K : FS} {x : Expr} {Fa : FE} {Fc : FT} {pos : Pos}
theorem ds_nil : PSs X [] (tS G sNext) := PSs_imp pss_nil fun D σ H ⟨w, e, s, I, h⟩ => h w σ H I .refl
theorem ds_cons (h1 : PS X st (tS G F)) (h2 : PSs X rest (tS G K)) : PSs X (st :: rest) (tS G (sSeq F K)) := PSs_imp (pss_cons h1 h2) fun D σ H ⟨w, e, s, I, h⟩ => by
  refine ⟨w, e, s, I, ?_⟩
  unfold sSeq at h
  cases q : F e s with
  | bad => rw [q] at h; exact h
  | nx e1 s1 =>
    rw [q] at h
    exact fun w1 σ1 H1 I1 x1 => ⟨w1, e1, s1, I1, kS_ext x1 h⟩
  | bk e1 s1 => rw [q] at h; exact h
  | ct e1 s1 => rw [q] at h; exact h
  | rt d s1 => rw [q] at h; exact h
theorem ds_one (h1 : PS X st (tS G F)) : PSs X [st] (tS G F) := pss_one h1
theorem ds_pass : PS X (.Pass pos) (tS G sNext) := PS_imp ps_pass fun D σ H ⟨w, e, s, I, h⟩ => h w σ H I .refl
theorem ds_break : PS X (.Break pos) (tS G sBreak) := PS_imp ps_break fun D σ H ⟨w, e, s, I, h⟩ => h w σ H I .refl
theorem ds_continue : PS X (.Continue pos) (tS G sCont) := PS_imp ps_continue fun D σ H ⟨w, e, s, I, h⟩ => h w σ H I .refl
theorem ds_doc {y j pos'} : PS X (.Expr (.Constant (.str y) j pos) pos') (tS G sNext) := PS_imp ps_doc fun D σ H ⟨w, e, s, I, h⟩ => h w σ H I .refl
theorem ds_expr (ha : PE X x (tE G Fa)) (hs : swapsWith x none pos.line X.env = pure false := by rfl) : PS X (.Expr x pos) (tS G (sDrop Fa)) := PS_imp (ps_expr ha hs) fun D σ H ⟨w, e, s, I, h⟩ =>
  ⟨w, e, s, I, holds_imp (flo_holds h) fun d s1 h1 w1 v H1 I1 x1 r1 => h1 w1 σ H1 I1 x1.f⟩
theorem ds_ret (ha : PE X x (tE G Fa)) : PS X (.Return (some x) pos) (tS G (sRet Fa)) := PS_imp (ps_ret ha) fun D σ H ⟨w, e, s, I, h⟩ =>
  ⟨w, e, s, I, holds_imp (flo_holds h) fun d s1 h1 w1 v H1 I1 x1 r1 => h1 w1 e σ v H1 I1 x1.f r1⟩
theorem ds_retN : PS X (.Return none pos) (tS G sRetN) := PS_imp ps_retN fun D σ H ⟨w, e, s, I, h⟩ => h w e σ .non H I .refl rp_n
theorem ds_if {c : Expr} (hc : PT X c (tT G Fc)) (ha : PSs X a (tS G F)) (hb : PSs X b (tS G K)) : PS X (.If c a b pos) (tS G (sIf Fc F K)) := PS_imp (ps_if hc ha hb) fun D σ H ⟨w, e, s, I, h⟩ => by
  refine ⟨w, e, s, I, holds_imp (flo_holds h) fun d s1 h1 w1 H1 I1 x1 => ?_⟩
  cases d with
  | true => exact iteT ⟨w1, e, s1, I1, kS_ext x1.f h1⟩
  | false => exact iteF ⟨w1, e, s1, I1, kS_ext x1.f h1⟩
/-- a ghost step: the local's own list stands still from here on -/
@[simp] def sFreeze (i : Nat) (F : FS) : FS := fun e s => F (frz i e) s
theorem ds_freeze (i : Nat) (h : PS X st (tS G F)) : PS X st (tS G (sFreeze i F)) := PS_imp h fun D σ H ⟨w, e, s, I, q⟩ => by
  obtain ⟨w', J, x⟩ := I.freeze i
  exact ⟨w', frz i e, s, J, kS_ext x q⟩
theorem dss_freeze (i : Nat) (h : PSs X rest (tS G F)) : PSs X rest (tS G (sFreeze i F)) := PSs_imp h fun D σ H ⟨w, e, s, I, q⟩ => by
  obtain ⟨w', J, x⟩ := I.freeze i
  exact ⟨w', frz i e, s, J, kS_ext x q⟩
end

/-! ### targets -/
def kG (G : Gx) (is : List Nat) (w : Wd) (σ : L2.St) (H : Hp) (Q : L2.St → Hp → Prop) : Lcs → Sto → Prop := fun e' s' => ∀ w' σ' H', IE G w' e' s' σ' H' → EExt w H w' H' → (∀ i, i ∉ is → σ'[i]? = σ[i]?) → σ'.length = σ.length → Q σ' H'
def tG (G : Gx) (is : List Nat) (F : FG) : TG := fun v σ H Q => ∃ w e s d, IE G w e s σ H ∧ Rp G.K w.as (Fz w H) d v ∧ (F d e s).holds (kG G is w σ H Q)
abbrev FGs := List Dat → Lcs → Sto → Res Lcs
def tGs (G : Gx) (is : List Nat) (F : FGs) : TGs := fun vs σ H Q => ∃ w e s ds, IE G w e s σ H ∧ RpL G.K w.as (Fz w H) ds vs ∧ (F ds e s).holds (kG G is w σ H Q)
theorem PG_imp {a : Expr} {t t' : TG} (h : PG X a t) (k : ∀ v σ H Q, t' v σ H Q → t v σ H Q) : PG X a t' := ⟨fun pins s σ H v u Q I r q => h.run pins s σ H v u Q I r (k _ _ _ _ q)⟩
theorem PGs_imp {a : List Expr} {t t' : TGs} (h : PGs X a t) (k : ∀ v σ H Q, t' v σ H Q → t v σ H Q) : PGs X a t' := ⟨fun pins s σ H v u Q I r q => h.run pins s σ H v u Q I r (k _ _ _ _ q)⟩
@[simp] def gSet (i : Nat) : FG := fun d e s => if i < e.length then .ok (e.set i (.fz d)) s else .bad
@[simp] def gsNil : FGs := fun ds e s => match ds with
  | [] => .ok e s
  | _ => .bad
@[simp] def gsCons (F : FG) (Fr : FGs) : FGs := fun ds e s => match ds with
  | d :: r => (F d e s).bind fun e1 s1 => Fr r e1 s1
  | [] => .bad
@[simp] def gTupT (n : Nat) (F : FGs) : FG := fun d e s => match d with
  | .tuple ds => if ds.length = n then F ds e s else .bad
  | _ => .bad
theorem dg_name (i : Nat) {x : Str} {pos : Pos} (hN : X.N.Nodup) (hi : X.N[i]? = some x := by rfl) (hx : Loc X.env.scope x := by first | exact Or.inl rfl | exact Or.inr rfl) (hf : X.fn x = true ∨ X.env.scope.names.lookup x = some .local := by first | exact .inl rfl | exact .inr rfl) : PG X (.Name x pos) (tG G [i] (gSet i)) :=
  PG_imp (pg_name hN hi hx hf) fun v σ H Q ⟨w, e, s, d, I, r, h⟩ => by
    unfold gSet at h
    split at h
    · rename_i c
      exact h w _ H (I.set c r) .refl (fun j hj => by
        have hj' : j ≠ i := by simpa using hj
        exact List.getElem?_set_ne (Ne.symm hj')) (by rw [List.length_set])
    · exact h.elim
theorem dgs_nil : PGs X [] (tGs G [] gsNil) := PGs_imp pgs_nil fun vs σ H Q ⟨w, e, s, ds, I, r, h⟩ => by
  unfold gsNil at h
  split at h
  · cases vs with
    | nil => exact ⟨rfl, h w σ H I .refl (fun _ _ => rfl) rfl⟩
    | cons _ _ => simp [RpL] at r
  · exact h.elim
theorem dgs_cons {a : Expr} {r : List Expr} {F : FG} {Fr : FGs} {is js : List Nat} (h1 : PG X a (tG G is F)) (h2 : PGs X r (tGs G js Fr)) (hs : (assignEach (a :: r) X.env).map (·.2) = assign a X.env :: (assignEach r X.env).map (·.2) := by rfl) : PGs X (a :: r) (tGs G (is ++ js) (gsCons F Fr)) :=
  PGs_imp (pgs_cons h1 h2 hs) fun vs σ H Q ⟨w, e, s, ds, I, r, h⟩ => by
    unfold gsCons at h
    split at h
    · rename_i d dr
      cases vs with
      | nil => simp [RpL] at r
      | cons v vr =>
        simp only [RpL] at r
        refine ⟨v, vr, rfl, w, e, s, d, I, r.1, holds_imp (holds_bind h) fun e1 s1 k w1 σ1 H1 I1 x1 a1 l1 => ?_⟩
        refine ⟨w1, e1, s1, dr, I1, x1.rpl r.2, holds_imp k fun e2 s2 k2 w2 σ2 H2 I2 x2 a2 l2 => ?_⟩
        exact k2 w2 σ2 H2 I2 (x1.trans x2) (fun i hi => (a2 i fun z => hi (List.mem_append_right _ z)).trans (a1 i fun z => hi (List.mem_append_left _ z))) (l2.trans l1)
    · exact h.elim
theorem dg_tup {es : List Expr} {k : Nat} {pos : Pos} {F : FGs} {is : List Nat} {n : Nat} (hc : X.calm = true) (hK : X.K = G.K) (h : PGs X es (tGs G is F)) (hn : (assignEach es X.env).length = n := by rfl) (hst : (assignEach es X.env).findIdx? (·.1) = none := by rfl) : PG X (.Tuple es k pos) (tG G is (gTupT n F)) :=
  PG_imp (pg_tup hc h hn hst) fun v σ H Q ⟨w, e, s, d, I, r, q⟩ => by
    unfold gTupT at q
    split at q
    · rename_i ds
      split at q
      · rename_i c
        obtain ⟨a, xs, rfl, hq, rx⟩ := rp_tuple r
        exact ⟨a, xs, rfl, by rw [hK]; exact sqT_mono Fz_sub hq, by rw [rx.length]; exact c, w, e, s, ds, I, rx, q⟩
      · exact q.elim
    · exact q.elim

/-! ### assignments -/
@[simp] def sAsg (Fa : FE) (F : FG) : FS := fun e s => (Fa e s).flo fun d s1 => (F d e s1).flo fun e2 s2 => .nx e2 s2
@[simp] def sSet (i : Nat) (Fa : FE) : FS := fun e s => sAsg Fa (gSet i) e s
theorem tAsg_of {Fa : FE} {F : FG} {is : List Nat} {D : Ends} {σ : L2.St} {H : Hp} (h : tS G (sAsg Fa F) D σ H) : tAsg (tE G Fa) (tG G is F) D σ H := by
  obtain ⟨w, e, s, I, h⟩ := h
  refine ⟨w, e, s, I, holds_imp (flo_holds h) fun d s1 h1 w1 v H1 I1 x1 r1 => ?_⟩
  exact ⟨w1, e, s1, d, I1, r1, holds_imp (flo_holds h1) fun e2 s2 h2 w2 σ2 H2 I2 x2 _ _ => h2 w2 σ2 H2 I2 (x1.f.trans x2.f)⟩
theorem ds_asg {tg x : Expr} {pos : Pos} {Fa : FE} {F : FG} {is : List Nat} (ha : PE X x (tE G Fa)) (hg : PG X tg (tG G is F)) (hs : swapsWithSole [tg] x pos.line X.env = pure false := by rfl) (hw : swappedStores [tg] x X.env = pure none := by rfl)
    (h1 : (assignEach [tg] X.env).map (·.2) = [assign tg X.env] := by rfl) : PS X (.Assign [tg] x pos) (tS G (sAsg Fa F)) := PS_imp (ps_asg ha hg hs hw h1) fun _ _ _ h => tAsg_of h
theorem gName_of {i : Nat} {v : V} {σ : L2.St} {H : Hp} {Q : L2.St → Hp → Prop} {is : List Nat} (h : tG G is (gSet i) v σ H Q) (hi : i ∈ is) : gName i v σ H Q := by
  obtain ⟨w, e, s, d, I, r, h⟩ := h
  unfold gSet at h
  split at h
  · rename_i c
    exact h w _ H (I.set c r) .refl (fun j hj => List.getElem?_set_ne fun (z : i = j) => hj (by rw [← z]; exact hi)) (by rw [List.length_set])
  · exact h.elim
theorem ds_set (i : Nat) {y : Str} {x : Expr} {pos pos' : Pos} {Fa : FE} (hN : X.N.Nodup) (ha : PE X x (tE G Fa)) (hi : X.N[i]? = some y := by rfl) (hx : Loc X.env.scope y := by first | exact Or.inl rfl | exact Or.inr rfl) (hs : swapsWith x (some (.Name y pos')) pos.line X.env = pure false := by rfl)
    (hf : X.fn y = true ∨ X.env.scope.names.lookup y = some .local := by first | exact .inl rfl | exact .inr rfl) : PS X (.Assign [.Name y pos'] x pos) (tS G (sSet i Fa)) :=
  PS_imp (ps_set hN hi hx ha hs hf) fun D σ H h => by
    have h' := tAsg_of (is := [i]) h
    obtain ⟨w, e, s, I, h'⟩ := h'
    exact ⟨w, e, s, I, holds_imp h' fun d s1 k w1 v H1 I1 x1 r1 => gName_of (k w1 v H1 I1 x1 r1) (by simp)⟩
/-- a, b = x, y with plain local names -/
@[simp] def sPar (i j : Nat) (Fs : FA) : FS := fun e s => (Fs e s).flo fun ds s1 => match ds with
  | [d1, d2] => if i < e.length ∧ j < e.length then .nx ((e.set i (.fz d1)).set j (.fz d2)) s1 else .bad
  | _ => .bad
theorem ds_par (i j : Nat) {x y : Str} {a b : Expr} {Fs : FA} {px py pt pos : Pos} {kt k2 pt2} (hc : X.calm = true) (hN : X.N.Nodup) (ha : PA X [a, b] (tA G Fs)) (hi : X.N[i]? = some x := by rfl) (hj : X.N[j]? = some y := by rfl) (hij : i ≠ j := by decide)
    (hx : X.env.scope.names.lookup x = some .local := by rfl) (hy : X.env.scope.names.lookup y = some .local := by rfl)
    (hw : swappedStores [.Tuple [.Name x px, .Name y py] kt pt] (.Tuple [a, b] k2 pt2) X.env = pure (some [x, y]) := by rfl)
    (hs : swapsWithSole [.Tuple [.Name x px, .Name y py] kt pt] (.Tuple [a, b] k2 pt2) pos.line X.env = pure false := by rfl) :
    PS X (.Assign [.Tuple [.Name x px, .Name y py] kt pt] (.Tuple [a, b] k2 pt2) pos) (tS G (sPar i j Fs)) := PS_imp (ps_par hc hN hi hj hij hx hy ha hw hs) fun D σ H ⟨w, e, s, I, h⟩ => by
  refine ⟨w, e, s, I, holds_imp (flo_holds h) fun ds s1 h1 w1 vs H1 I1 x1 r1 => ?_⟩
  split at h1
  · rename_i d1 d2
    split at h1
    · rename_i c
      obtain ⟨v1, v2, rfl, k1, k2⟩ := rpl2 r1
      exact ⟨v1, v2, rfl, h1 w1 _ H1 ((I1.set c.1 k1).set (by rw [List.length_set]; exact c.2) k2) x1.f⟩
    · exact h1.elim
  · exact h1.elim
/-- x op= e, ints -/
@[simp] def sAug (i : Nat) (f : Int → Int → Int) (Fa : FE) : FS := fun e s => match e[i]? with
  | some (.fz (.int a)) => (Fa e s).flo fun d s1 => match d with
    | .int b => .nx (e.set i (.fz (.int (f a b)))) s1
    | _ => .bad
  | _ => .bad
theorem ds_aug (i : Nat) {x : Str} {a : Expr} {op : Operator} {pos pos' : Pos} {Fa : FE} {f : Int → Int → Int} (ho : PIp X op (ipI f)) (hN : X.N.Nodup) (ha : PE X a (tE G Fa)) (hi : X.N[i]? = some x := by rfl) (hx : Loc X.env.scope x := by first | exact Or.inl rfl | exact Or.inr rfl)
    (hf : X.fn x = true ∨ X.env.scope.names.lookup x = some .local := by first | exact .inl rfl | exact .inr rfl) : PS X (.AugAssign (.Name x pos') op a pos) (tS G (sAug i f Fa)) := PS_imp (ps_aug hN hi hx ha ho hf) fun D σ H ⟨w, e, s, I, h⟩ => by
  unfold sAug at h
  split at h
  · rename_i m hm
    obtain ⟨v, h1, h2⟩ := I.slot i _ hm
    have hi' : i < e.length := (List.getElem?_eq_some_iff.mp hm).1
    refine ⟨v, h1, w, e, s, I, holds_imp (flo_holds h) fun d s1 h3 w1 y H1 I1 x1 r1 => ?_⟩
    split at h3
    · rename_i n
      refine ⟨m, n, rp_int h2, rp_int r1, h3 w1 _ H1 (I1.set hi' rp_i) x1.f⟩
    · exact h3.elim
  · exact h.elim
theorem ds_augAdd (i : Nat) {x : Str} {a : Expr} {pos pos' : Pos} {Fa : FE} (hN : X.N.Nodup) (ha : PE X a (tE G Fa)) (hi : X.N[i]? = some x := by rfl) (hx : Loc X.env.scope x := by first | exact Or.inl rfl | exact Or.inr rfl)
    (hf : X.fn x = true ∨ X.env.scope.names.lookup x = some .local := by first | exact .inl rfl | exact .inr rfl) : PS X (.AugAssign (.Name x pos') .Add a pos) (tS G (sAug i (· + ·) Fa)) := ds_aug i ip_add hN ha hi hx hf
end
end DL

namespace DL
open PySem PySem.Spec PyProof.Rows L2
section
variable {X : Cx} {G : Gx}

/-! ### what is walked -/
structure Wk (G : Gx) (w : Wd) (H : Hp) (J : It) (ds : List Dat) : Prop where
  go : ∀ w' H', FExt w H w' H' → ∀ i, i < ds.length → J.go i H'
  stop : ∀ w' H', FExt w H w' H' → ∀ i, ds.length ≤ i → J.stop i H'
  yld : ∀ w' e s σ H' H'' i x, IE G w' e s σ H' → FExt w H w' H' → i < ds.length → J.yld i H' x H'' → IE G w' e s σ H'' ∧ EExt w' H' w' H'' ∧ ∃ d, ds[i]? = some d ∧ Rp G.K w'.as (Fz w' H'') d x
def kI (G : Gx) (w : Wd) (e : Lcs) (σ : L2.St) (H : Hp) (R : It → Hp → Prop) : List Dat → Sto → Prop := fun ds s' => ∀ w' H' J, IE G w' e s' σ H' → EExt w H w' H' → Wk G w' H' J ds → R J H'
def tI (G : Gx) (F : FA) : TI := fun σ H R => ∃ w e s, IE G w e s σ H ∧ (F e s).holds (kI G w e σ H R)
theorem PI_imp {tg a : Expr} {t t' : TI} (h : PI X tg a t) (k : ∀ σ H R, t' σ H R → t σ H R) : PI X tg a t' := ⟨fun pins s σ H R I q => h.run pins s σ H R I (k _ _ _ q)⟩
theorem PI_or {tg a : Expr} {t t' : TI} (h : PI X tg a t) (h' : PI X tg a t') : PI X tg a (fun σ H R => t σ H R ∨ t' σ H R) := ⟨fun pins s σ H R I q => by
  rcases q with q | q
  · exact h.run pins s σ H R I q
  · exact h'.run pins s σ H R I q⟩
theorem wk_list {w : Wd} {H : Hp} {a : Addr} {xs : List V} {ds : List Dat} (ha : Fz w H a = some (.lst xs)) (r : RpL G.K w.as (Fz w H) ds xs) : Wk G w H (Itl G.K a) ds := by
  have at_ : ∀ {w' H'}, FExt w H w' H' → SqL G.K H' a xs := fun {w' H'} x => .inl (.inl (Fz_sub _ _ (x.same _ _ ha)))
  refine ⟨fun w' H' x i hi => ?_, fun w' H' x i hi => ⟨xs, at_ x, by rw [r.length]; exact hi⟩, fun w' e s σ H' H'' i v I x hi y => ?_⟩
  · have hi' : i < xs.length := by rw [r.length]; exact hi
    exact ⟨xs, xs[i], at_ x, List.getElem?_eq_getElem hi'⟩
  · obtain ⟨rfl, y⟩ := y
    obtain ⟨d, h1, h2⟩ := r.get (y xs (at_ x))
    exact ⟨I, .refl, d, h1, x.rp h2⟩
theorem wk_tuple {w : Wd} {H : Hp} {a : Addr} {xs : List V} {ds : List Dat} (ha : SqT G.K (Fz w H) a xs) (r : RpL G.K w.as (Fz w H) ds xs) : Wk G w H (Itt G.K a) ds := by
  have at_ : ∀ {w' H'}, FExt w H w' H' → SqT G.K H' a xs := fun {w' H'} x => sqT_mono (x.same.trans Fz_sub) ha
  refine ⟨fun w' H' x i hi => ?_, fun w' H' x i hi => ⟨xs, at_ x, by rw [r.length]; exact hi⟩, fun w' e s σ H' H'' i v I x hi y => ?_⟩
  · have hi' : i < xs.length := by rw [r.length]; exact hi
    exact ⟨xs, xs[i], at_ x, List.getElem?_eq_getElem hi'⟩
  · obtain ⟨rfl, y⟩ := y
    obtain ⟨d, h1, h2⟩ := r.get (y xs (at_ x))
    exact ⟨I, .refl, d, h1, x.rp h2⟩
def chars (z : Str) : List Dat := z.cps.toList.map fun c => .str ⟨#[c]⟩
theorem wk_str {w : Wd} {H : Hp} {z : Str} : Wk G w H (Its z) (chars z) := by
  have hl : (chars z).length = z.cps.size := by unfold chars; rw [List.length_map, Array.length_toList]
  refine ⟨fun w' H' x i hi => by rw [hl] at hi; exact hi, fun w' H' x i hi => by rw [hl] at hi; exact hi, fun w' e s σ H' H'' i v I x hi y => ?_⟩
  obtain ⟨rfl, c, hc, rfl⟩ := y
  refine ⟨I, .refl, .str ⟨#[c]⟩, ?_, rp_s⟩
  unfold chars
  rw [List.getElem?_map, Array.getElem?_toList, hc]
  rfl
@[simp] def fIter (Fa : FE) : FA := fun e s => (Fa e s).bind fun d s1 => match d with
  | .list ds => .ok ds s1
  | .tuple ds => .ok ds s1
  | .str z => .ok (chars z) s1
  | _ => .bad
theorem di_seq {tg a : Expr} {Fa : FE} (hK : X.K = G.K) (ha : PE X a (tE G Fa)) : PI X tg a (tI G (fIter Fa)) := PI_imp (PI_or (pi_list ha) (PI_or (pi_tup ha) (pi_str ha))) fun σ H R ⟨w, e, s, I, h⟩ => by
  unfold fIter at h
  rw [hK]
  cases q : Fa e s with
  | bad => rw [q] at h; exact h.elim
  | ok d s1 =>
    rw [q] at h
    cases d with
    | list ds =>
      refine .inl ⟨w, e, s, I, ?_⟩
      rw [q]
      intro w1 x H1 I1 x1 r1
      obtain ⟨p, xs, rfl, hp, rx⟩ := rp_list r1
      exact ⟨p, rfl, ⟨xs, .inl (.inl (Fz_sub _ _ hp))⟩, h w1 H1 _ I1 x1 (wk_list hp rx)⟩
    | tuple ds =>
      refine .inr (.inl ⟨w, e, s, I, ?_⟩)
      rw [q]
      intro w1 x H1 I1 x1 r1
      obtain ⟨p, xs, rfl, hp, rx⟩ := rp_tuple r1
      exact ⟨p, rfl, ⟨xs, sqT_mono Fz_sub hp⟩, h w1 H1 _ I1 x1 (wk_tuple hp rx)⟩
    | str z =>
      refine .inr (.inr ⟨w, e, s, I, ?_⟩)
      rw [q]
      intro w1 x H1 I1 x1 r1
      exact ⟨z, rp_str r1, h w1 H1 _ I1 x1 wk_str⟩
    | _ => exact h.elim
def ups (lo : Int) (n : Nat) : List Dat := (List.range n).map fun (i : Nat) => PyData.int (lo + i)
theorem ups_len (lo : Int) (n : Nat) : (ups lo n).length = n := by unfold ups; rw [List.length_map, List.length_range]
theorem wk_range {w : Wd} {H : Hp} {lo : Int} {n : Nat} : Wk G w H (Itr lo n) (ups lo n) := by
  refine ⟨fun w' H' x i hi => by rw [ups_len] at hi; exact hi, fun w' H' x i hi => by rw [ups_len] at hi; exact hi, fun w' e s σ H' H'' i v I x hi y => ?_⟩
  obtain ⟨rfl, rfl⟩ := y
  rw [ups_len] at hi
  refine ⟨I, .refl, .int (lo + i), ?_, rp_i⟩
  unfold ups
  rw [List.getElem?_map, List.getElem?_range hi]; rfl
def cRng (i : Int) : Bool := decide (-(2 ^ 62) ≤ i) && decide (i < 2 ^ 62)
theorem cRng_is {i : Int} (h : cRng i = true) : -(2 ^ 62) ≤ i ∧ i < 2 ^ 62 := by
  unfold cRng at h
  rw [Bool.and_eq_true] at h
  exact ⟨of_decide_eq_true h.1, of_decide_eq_true h.2⟩
@[simp] def gRng1 : List Dat → Sto → Res (List Dat) := fun ds s => match ds with
  | [.int j] => if cRng j then .ok (ups 0 j.toNat) s else .bad
  | _ => .bad
@[simp] def gRng2 : List Dat → Sto → Res (List Dat) := fun ds s => match ds with
  | [.int i, .int j] => if cRng i && cRng j then .ok (ups i (j - i).toNat) s else .bad
  | _ => .bad
@[simp] def fItA (g : List Dat → Sto → Res (List Dat)) (Fs : FA) : FA := fun e s => (Fs e s).bind fun ds s1 => g ds s1
theorem di_range1 {tg a : Expr} {p pos : Pos} {Fs : FA} (hm : X.mg "range" = none) (ha : PA X [a] (tA G Fs)) (hg : Gl X "range" := by rfl) (hs : starEach [a] X.env = [(false, eval a X.env)] := by rfl) : PI X tg (.Call (.Name "range" p) [a] [] pos) (tI G (fItA gRng1 Fs)) :=
  PI_imp (pi_range1 hg hm ha hs) fun σ H R ⟨w, e, s, I, h⟩ => by
    refine ⟨w, e, s, I, holds_imp (holds_bind h) fun ds s1 h1 w1 vs H1 I1 x1 r1 => ?_⟩
    unfold gRng1 at h1
    split at h1
    · split at h1
      · rename_i c
        obtain ⟨v, rfl, k⟩ := rpl1 r1
        rw [rp_int k]
        exact ⟨_, rfl, (cRng_is c).1, (cRng_is c).2, h1 w1 H1 _ I1 x1 wk_range⟩
      · exact h1.elim
    · exact h1.elim
theorem di_range2 {tg a b : Expr} {p pos : Pos} {Fs : FA} (hm : X.mg "range" = none) (ha : PA X [a, b] (tA G Fs)) (hg : Gl X "range" := by rfl) (hs : starEach [a, b] X.env = [(false, eval a X.env), (false, eval b X.env)] := by rfl) (hs2 : starEach [b] X.env = [(false, eval b X.env)] := by rfl) :
    PI X tg (.Call (.Name "range" p) [a, b] [] pos) (tI G (fItA gRng2 Fs)) :=
  PI_imp (pi_range2 hg hm ha hs hs2) fun σ H R ⟨w, e, s, I, h⟩ => by
    refine ⟨w, e, s, I, holds_imp (holds_bind h) fun ds s1 h1 w1 vs H1 I1 x1 r1 => ?_⟩
    unfold gRng2 at h1
    split at h1
    · split at h1
      · rename_i c
        rw [Bool.and_eq_true] at c
        obtain ⟨v, v2, rfl, k, k2⟩ := rpl2 r1
        rw [rp_int k, rp_int k2]
        exact ⟨_, _, rfl, ⟨(cRng_is c.1).1, (cRng_is c.1).2, (cRng_is c.2).1, (cRng_is c.2).2⟩, h1 w1 H1 _ I1 x1 wk_range⟩
      · exact h1.elim
    · exact h1.elim
/-- pairs: zip, enumerate -/
def pairs (xs ys : List Dat) : List Dat := (xs.zip ys).map fun p => .tuple [p.1, p.2]
theorem pair_new {w : Wd} {e : Lcs} {s : Sto} {σ : L2.St} {H : Hp} {T : Addr} {x y : V} {a b : Dat} (I : IE G w e s σ H) (hT : H T = none) (ra : Rp G.K w.as (Fz w H) a x) (rb : Rp G.K w.as (Fz w H) b y) :
    IE G w e s σ (upd H T (.tup [x, y])) ∧ EExt w H w (upd H T (.tup [x, y])) ∧ Rp G.K w.as (Fz w (upd H T (.tup [x, y]))) (.tuple [a, b]) (.ref T) := by
  refine ⟨I.new hT, I.newE hT, ?_⟩
  simp only [Rp]
  exact ⟨T, [x, y], rfl, .inl (.inl (I.newF hT)), RpL.cons ((I.newE hT).rp ra) (RpL.one ((I.newE hT).rp rb))⟩
theorem pairs_len (xs ys : List Dat) : (pairs xs ys).length = min xs.length ys.length := by unfold pairs; rw [List.length_map, List.length_zip]
theorem pairs_get {xs ys : List Dat} {i : Nat} {a b : Dat} (h1 : xs[i]? = some a) (h2 : ys[i]? = some b) : (pairs xs ys)[i]? = some (.tuple [a, b]) := by
  unfold pairs
  rw [List.getElem?_map, (List.getElem?_zip_eq_some (z := (a, b))).mpr ⟨h1, h2⟩]; rfl
theorem wk_zip {w : Wd} {H : Hp} {a b : Addr} {xs ys : List V} {ds es : List Dat} (ha : Fz w H a = some (.lst xs)) (r : RpL G.K w.as (Fz w H) ds xs) (hb : Fz w H b = some (.lst ys)) (r2 : RpL G.K w.as (Fz w H) es ys) : Wk G w H (Itz G.K a b) (pairs ds es) := by
  have at_ : ∀ {w' H'}, FExt w H w' H' → SqL G.K H' a xs := fun {w' H'} x => .inl (.inl (Fz_sub _ _ (x.same _ _ ha)))
  have at2 : ∀ {w' H'}, FExt w H w' H' → SqL G.K H' b ys := fun {w' H'} x => .inl (.inl (Fz_sub _ _ (x.same _ _ hb)))
  have l1 := r.length
  have l2 := r2.length
  refine ⟨fun w' H' x i hi => ?_, fun w' H' x i hi => ⟨xs, ys, at_ x, at2 x, ?_⟩, fun w' e s σ H' H'' i v I x hi y => ?_⟩
  · rw [pairs_len] at hi
    have h1 : i < xs.length := by omega
    have h2 : i < ys.length := by omega
    exact ⟨xs, ys, xs[i], ys[i], at_ x, at2 x, List.getElem?_eq_getElem h1, List.getElem?_eq_getElem h2⟩
  · rw [pairs_len] at hi
    omega
  · obtain ⟨T, x1, y1, rfl, hT, rfl, f1, f2⟩ := y
    obtain ⟨d1, g1, k1⟩ := r.get (f1 xs (at_ x))
    obtain ⟨d2, g2, k2⟩ := r2.get (f2 ys (at2 x))
    obtain ⟨J, E, R⟩ := pair_new I hT (x.rp k1) (x.rp k2)
    exact ⟨J, E, _, pairs_get g1 g2, R⟩
theorem wk_zipT {w : Wd} {H : Hp} {a b : Addr} {xs ys : List V} {ds es : List Dat} (ha : SqT G.K (Fz w H) a xs) (r : RpL G.K w.as (Fz w H) ds xs) (hb : SqT G.K (Fz w H) b ys) (r2 : RpL G.K w.as (Fz w H) es ys) : Wk G w H (RZ.ItzT G.K a b) (pairs ds es) := by
  have at_ : ∀ {w' H'}, FExt w H w' H' → SqT G.K H' a xs := fun {w' H'} x => sqT_mono (x.same.trans Fz_sub) ha
  have at2 : ∀ {w' H'}, FExt w H w' H' → SqT G.K H' b ys := fun {w' H'} x => sqT_mono (x.same.trans Fz_sub) hb
  have l1 := r.length
  have l2 := r2.length
  refine ⟨fun w' H' x i hi => ?_, fun w' H' x i hi => ⟨xs, ys, at_ x, at2 x, ?_⟩, fun w' e s σ H' H'' i v I x hi y => ?_⟩
  · rw [pairs_len] at hi
    have h1 : i < xs.length := by omega
    have h2 : i < ys.length := by omega
    exact ⟨xs, ys, xs[i], ys[i], at_ x, at2 x, List.getElem?_eq_getElem h1, List.getElem?_eq_getElem h2⟩
  · rw [pairs_len] at hi
    omega
  · obtain ⟨T, x1, y1, rfl, hT, rfl, f1, f2⟩ := y
    obtain ⟨d1, g1, k1⟩ := r.get (f1 xs (at_ x))
    obtain ⟨d2, g2, k2⟩ := r2.get (f2 ys (at2 x))
    obtain ⟨J, E, R⟩ := pair_new I hT (x.rp k1) (x.rp k2)
    exact ⟨J, E, _, pairs_get g1 g2, R⟩
theorem wk_enum {w : Wd} {H : Hp} {a : Addr} {xs : List V} {ds : List Dat} (ha : Fz w H a = some (.lst xs)) (r : RpL G.K w.as (Fz w H) ds xs) : Wk G w H (Ite G.K a) (pairs (ups 0 ds.length) ds) := by
  have at_ : ∀ {w' H'}, FExt w H w' H' → SqL G.K H' a xs := fun {w' H'} x => .inl (.inl (Fz_sub _ _ (x.same _ _ ha)))
  have l1 := r.length
  refine ⟨fun w' H' x i hi => ?_, fun w' H' x i hi => ⟨xs, at_ x, ?_⟩, fun w' e s σ H' H'' i v I x hi y => ?_⟩
  · rw [pairs_len, ups_len] at hi
    have h1 : i < xs.length := by omega
    exact ⟨xs, xs[i], at_ x, List.getElem?_eq_getElem h1⟩
  · rw [pairs_len, ups_len] at hi
    omega
  · obtain ⟨T, y1, rfl, hT, rfl, f2⟩ := y
    obtain ⟨d2, g2, k2⟩ := r.get (f2 xs (at_ x))
    rw [pairs_len, ups_len] at hi
    obtain ⟨J, E, R⟩ := pair_new I hT (rp_i (i := (i : Int))) (x.rp k2)
    refine ⟨J, E, _, pairs_get ?_ g2, R⟩
    unfold ups
    rw [List.getElem?_map, List.getElem?_range (by omega)]
    simp
@[simp] def gZip : List Dat → Sto → Res (List Dat) := fun ds s => match ds with
  | [.list xs, .list ys] => .ok (pairs xs ys) s
  | [.tuple xs, .tuple ys] => .ok (pairs xs ys) s
  | _ => .bad
@[simp] def gEnum : List Dat → Sto → Res (List Dat) := fun ds s => match ds with
  | [.list xs] => .ok (pairs (ups 0 xs.length) xs) s
  | _ => .bad
theorem di_zip {a b : Expr} {p pos tpos : Pos} {elts : List Expr} {kk : Nat} {Fs : FA} (hK : X.K = G.K) (hm : X.mg "zip" = none) (ha : PA X [a, b] (tA G Fs)) (hg : Gl X "zip" := by rfl)
    (hs : starEach [a, b] X.env = (false, eval a X.env) :: starEach [b] X.env := by rfl) (hpl : (backTo pos (starEach [b] X.env)).any (·.1) = false := by rfl) : PI X (.Tuple elts kk tpos) (.Call (.Name "zip" p) [a, b] [] pos) (tI G (fItA gZip Fs)) :=
  PI_imp (RZ.pi_zipA hg hm ha hs hpl) fun σ H R ⟨w, e, s, I, h⟩ => by
    rw [hK]
    refine ⟨w, e, s, I, holds_imp (holds_bind h) fun ds s1 h1 w1 vs H1 I1 x1 r1 => ?_⟩
    unfold gZip at h1
    split at h1
    · obtain ⟨v, v2, rfl, k, k2⟩ := rpl2 r1
      obtain ⟨p, xs, rfl, hp, rx⟩ := rp_list k
      obtain ⟨q, ys, rfl, hq, ry⟩ := rp_list k2
      exact ⟨p, q, xs, ys, rfl, .inl ⟨.inl (.inl (Fz_sub _ _ hp)), .inl (.inl (Fz_sub _ _ hq)), h1 w1 H1 _ I1 x1 (wk_zip hp rx hq ry)⟩⟩
    · obtain ⟨v, v2, rfl, k, k2⟩ := rpl2 r1
      obtain ⟨p, xs, rfl, hp, rx⟩ := rp_tuple k
      obtain ⟨q, ys, rfl, hq, ry⟩ := rp_tuple k2
      exact ⟨p, q, xs, ys, rfl, .inr ⟨sqT_mono Fz_sub hp, sqT_mono Fz_sub hq, h1 w1 H1 _ I1 x1 (wk_zipT hp rx hq ry)⟩⟩
    · exact h1.elim
theorem di_enum {a : Expr} {p pos tpos : Pos} {elts : List Expr} {kk : Nat} {Fs : FA} (hK : X.K = G.K) (hm : X.mg "enumerate" = none) (ha : PA X [a] (tA G Fs)) (hg : Gl X "enumerate" := by rfl) (hs : starEach [a] X.env = [(false, eval a X.env)] := by rfl) :
    PI X (.Tuple elts kk tpos) (.Call (.Name "enumerate" p) [a] [] pos) (tI G (fItA gEnum Fs)) :=
  PI_imp (pi_enum hg hm ha hs) fun σ H R ⟨w, e, s, I, h⟩ => by
    rw [hK]
    refine ⟨w, e, s, I, holds_imp (holds_bind h) fun ds s1 h1 w1 vs H1 I1 x1 r1 => ?_⟩
    unfold gEnum at h1
    split at h1
    · obtain ⟨v, rfl, k⟩ := rpl1 r1
      obtain ⟨p, xs, rfl, hp, rx⟩ := rp_list k
      exact ⟨p, xs, rfl, .inl (.inl (Fz_sub _ _ hp)), h1 w1 H1 _ I1 x1 (wk_enum hp rx)⟩
    · exact h1.elim

/-! ### for -/
@[simp] def forL (F : FG) (B : FS) : List Dat → FS
  | [], e, s => .nx e s
  | d :: ds, e, s => (F d e s).flo fun e1 s1 => match B e1 s1 with
    | .nx e2 s2 => forL F B ds e2 s2
    | .ct e2 s2 => forL F B ds e2 s2
    | .bk e2 s2 => .nx e2 s2
    | .rt d s2 => .rt d s2
    | .bad => .bad
@[simp] def sFor (Fi : FA) (F : FG) (B : FS) : FS := fun e s => (Fi e s).flo fun ds s1 => forL F B ds e s1
theorem ds_for {tg iter : Expr} {body : List Stmt} {pos : Pos} {Fi : FA} {F : FG} {B : FS} {is : List Nat} (hp : PassesOwn (model X.prog X.w) X.A X.env X.xe) (hc : X.calm = true) (hi : PI X tg iter (tI G Fi)) (hg : PG X tg (tG G is F)) (hb : PSs X body (tS G B))
    (hs : ∀ x, foldedSetIterable iter X.env x = pure x := by intro _; rfl) : PS X (.For tg iter body [] pos) (tS G (sFor Fi F B)) := PS_imp (ps_for hp hc hi hg hb hs) fun D σ H ⟨w, e, s, I, h⟩ => by
  refine ⟨w, e, s, I, holds_imp (flo_holds h) fun ds s1 h1 w1 H1 J I1 x1 W => ?_⟩
  refine ⟨fun i m σ2 H2 => m = ds.length - i ∧ i ≤ ds.length ∧ ∃ w2 e2 s2, IE G w2 e2 s2 σ2 H2 ∧ FExt w1 H1 w2 H2 ∧ kS G w2 H2 D (forL F B (ds.drop i) e2 s2),
    ⟨ds.length, by omega, Nat.zero_le _, w1, e, s1, I1, .refl, kS_ext x1.f h1⟩, ?_⟩
  rintro i m σ2 H2 ⟨rfl, hi, w2, e2, s2, I2, x2, q⟩
  by_cases hlt : i < ds.length
  · refine .inr ⟨W.go w2 H2 x2 i hlt, fun σ3 H3 => ∃ w3 e3 s3, IE G w3 e3 s3 σ3 H3 ∧ FExt w1 H1 w3 H3 ∧ kS G w3 H3 D (forL F B (ds.drop (i + 1)) e3 s3), fun σ3 H3 ⟨w3, e3, s3, I3, x3, q3⟩ => ⟨ds.length - (i + 1), by omega, rfl, hlt, w3, e3, s3, I3, x3, q3⟩, fun v H3 y => ?_⟩
    obtain ⟨I3, x3, d, hd, rd⟩ := W.yld w2 e2 s2 σ2 H2 H3 i v I2 x2 hlt y
    have ed : ds.drop i = d :: ds.drop (i + 1) := by
      rw [List.drop_eq_getElem_cons hlt]
      rw [List.getElem?_eq_getElem hlt] at hd
      cases hd
      rfl
    rw [ed] at q
    unfold forL at q
    refine ⟨w2, e2, s2, d, I3, rd, holds_imp (flo_holds q) fun e4 s4 h4 w4 σ4 H4 I4 x4 _ _ => ?_⟩
    have x24 : FExt w2 H2 w4 H4 := x3.f.trans x4.f
    refine ⟨w4, e4, s4, I4, ?_⟩
    cases z : B e4 s4 with
    | bad => rw [z] at h4; exact h4
    | nx e5 s5 =>
      rw [z] at h4
      exact fun w5 σ5 H5 I5 x5 => ⟨w5, e5, s5, I5, (x2.trans x24).trans x5, kS_ext (x24.trans x5) h4⟩
    | ct e5 s5 =>
      rw [z] at h4
      exact fun w5 σ5 H5 I5 x5 => ⟨w5, e5, s5, I5, (x2.trans x24).trans x5, kS_ext (x24.trans x5) h4⟩
    | bk e5 s5 =>
      rw [z] at h4
      exact fun w5 σ5 H5 I5 x5 => h4 w5 σ5 H5 I5 (x24.trans x5)
    | rt d5 s5 =>
      rw [z] at h4
      exact fun w5 e6 σ5 v5 H5 I5 x5 => h4 w5 e6 σ5 v5 H5 I5 (x24.trans x5)
  · have e0 : ds.drop i = [] := List.drop_eq_nil_of_le (by omega)
    rw [e0] at q
    exact .inl ⟨W.stop w2 H2 x2 i (by omega), q w2 σ2 H2 I2 .refl⟩

/-! ### while -/
/-- n turns at most -/
def whileN (C : FT) (B : FS) : Nat → FS
  | 0, _, _ => .bad
  | n + 1, e, s => (C e s).flo fun c s1 => if c then (match B e s1 with
    | .nx e2 s2 => whileN C B n e2 s2
    | .ct e2 s2 => whileN C B n e2 s2
    | .bk e2 s2 => .nx e2 s2
    | .rt d s2 => .rt d s2
    | .bad => .bad) else .nx e s1
theorem whileN_more {C : FT} {B : FS} : ∀ (n : Nat) (e : Lcs) (s : Sto), whileN C B n e s ≠ .bad → ∀ m, n ≤ m → whileN C B m e s = whileN C B n e s
  | 0, e, s, h, _, _ => absurd rfl h
  | n + 1, e, s, h, 0, hm => absurd hm (by omega)
  | n + 1, e, s, h, m + 1, hm => by
    unfold whileN at h ⊢
    cases q : C e s with
    | bad => rfl
    | ok c s1 =>
      rw [q] at h
      simp only [flo_ok] at h ⊢
      cases c with
      | false => rfl
      | true =>
        simp only [if_true] at h ⊢
        cases z : B e s1 with
        | bad => rfl
        | nx e2 s2 =>
          rw [z] at h
          exact whileN_more n e2 s2 h m (by omega)
        | ct e2 s2 =>
          rw [z] at h
          exact whileN_more n e2 s2 h m (by omega)
        | bk e2 s2 => rfl
        | rt d s2 => rfl
open Classical in
noncomputable def sWhile (C : FT) (B : FS) : FS := fun e s => if h : ∃ n, whileN C B n e s ≠ .bad then whileN C B (choose h) e s else .bad
theorem while_is {C : FT} {B : FS} {n : Nat} {e : Lcs} {s : Sto} (h : whileN C B n e s ≠ .bad) : sWhile C B e s = whileN C B n e s := by
  have hx : ∃ n, whileN C B n e s ≠ .bad := ⟨n, h⟩
  unfold sWhile
  rw [dif_pos hx]
  have h2 := Classical.choose_spec hx
  rcases Nat.le_total n (Classical.choose hx) with q | q
  · exact whileN_more n e s h _ q
  · exact (whileN_more _ e s h2 _ q).symm
theorem while_ex {C : FT} {B : FS} {e : Lcs} {s : Sto} (h : sWhile C B e s ≠ .bad) : ∃ n, whileN C B n e s = sWhile C B e s ∧ whileN C B n e s ≠ .bad := by
  by_cases hx : ∃ n, whileN C B n e s ≠ .bad
  · obtain ⟨n, hn⟩ := hx
    exact ⟨n, (while_is hn).symm, hn⟩
  · exact absurd (by unfold sWhile; rw [dif_neg hx]) h
/-- one turn -/
theorem while_step (C : FT) (B : FS) (e : Lcs) (s : Sto) : sWhile C B e s = (C e s).flo fun c s1 => if c then (match B e s1 with
    | .nx e2 s2 => sWhile C B e2 s2
    | .ct e2 s2 => sWhile C B e2 s2
    | .bk e2 s2 => .nx e2 s2
    | .rt d s2 => .rt d s2
    | .bad => .bad) else .nx e s1 := by
  have go : ∀ (e2 : Lcs) (s2 : Sto) (k : ∀ n, whileN C B (n + 1) e s = whileN C B n e2 s2), sWhile C B e s = sWhile C B e2 s2 := fun e2 s2 k => by
    by_cases hx : ∃ n, whileN C B n e2 s2 ≠ .bad
    · obtain ⟨n, hn⟩ := hx
      rw [while_is hn, ← k n, while_is (by rw [k n]; exact hn)]
    · have h1 : ¬ ∃ n, whileN C B n e s ≠ .bad := fun ⟨n, hn⟩ => by
        cases n with
        | zero => exact hn rfl
        | succ n => exact hx ⟨n, by rw [← k n]; exact hn⟩
      unfold sWhile
      rw [dif_neg hx, dif_neg h1]
  cases q : C e s with
  | bad =>
    have h1 : ¬ ∃ n, whileN C B n e s ≠ .bad := fun ⟨n, hn⟩ => by
      cases n with
      | zero => exact hn rfl
      | succ n => exact hn (by unfold whileN; rw [q]; rfl)
    unfold sWhile
    rw [dif_neg h1]; rfl
  | ok c s1 =>
    cases c with
    | false => exact while_is (n := 1) (by unfold whileN; rw [q]; simp) |>.trans (by unfold whileN; rw [q]; simp)
    | true =>
      cases z : B e s1 with
      | bad =>
        have h1 : ¬ ∃ n, whileN C B n e s ≠ .bad := fun ⟨n, hn⟩ => by
          cases n with
          | zero => exact hn rfl
          | succ n => exact hn (by unfold whileN; rw [q]; simp [z])
        unfold sWhile
        rw [dif_neg h1]; simp [z]
      | nx e2 s2 =>
        rw [go e2 s2 fun n => by conv => lhs; unfold whileN
                                 rw [q]; simp [z]]
        simp [z]
      | ct e2 s2 =>
        rw [go e2 s2 fun n => by conv => lhs; unfold whileN
                                 rw [q]; simp [z]]
        simp [z]
      | bk e2 s2 => exact (while_is (n := 1) (by unfold whileN; rw [q]; simp [z])).trans (by unfold whileN; rw [q]; simp [z])
      | rt d s2 => exact (while_is (n := 1) (by unfold whileN; rw [q]; simp [z])).trans (by unfold whileN; rw [q]; simp [z])
theorem ds_while {c : Expr} {body : List Stmt} {pos : Pos} {C : FT} {B : FS} (hp : PassesOwn (model X.prog X.w) X.A X.env X.xe) (hc : PT X c (tT G C)) (hb : PSs X body (tS G B)) : PS X (.While c body [] pos) (tS G (sWhile C B)) := PS_imp (ps_while hp hc hb) fun D σ H ⟨w, e, s, I, h⟩ => by
  have nb : sWhile C B e s ≠ .bad := fun z => by rw [z] at h; exact h
  obtain ⟨n, e1, e2⟩ := while_ex nb
  refine ⟨fun m σ2 H2 => ∃ w2 e2 s2, IE G w2 e2 s2 σ2 H2 ∧ FExt w H w2 H2 ∧ kS G w2 H2 D (whileN C B m e2 s2), ⟨n, w, e, s, I, .refl, by rw [e1]; exact h⟩, ?_⟩
  rintro m σ2 H2 ⟨w2, e2, s2, I2, x2, q⟩
  cases m with
  | zero => exact q.elim
  | succ m =>
    unfold whileN at q
    refine ⟨w2, e2, s2, I2, holds_imp (flo_holds q) fun b s3 h3 w3 H3 I3 x3 => ?_⟩
    cases b with
    | false => exact iteF (h3 w3 σ2 H3 I3 x3.f)
    | true =>
      refine iteT ⟨fun σ4 H4 => ∃ w4 e4 s4, IE G w4 e4 s4 σ4 H4 ∧ FExt w H w4 H4 ∧ kS G w4 H4 D (whileN C B m e4 s4), fun σ4 H4 k => ⟨m, Nat.lt_succ_self _, k⟩, w3, e2, s3, I3, ?_⟩
      simp only [if_true] at h3
      cases z : B e2 s3 with
      | bad => rw [z] at h3; exact h3
      | nx e5 s5 =>
        rw [z] at h3
        exact fun w5 σ5 H5 I5 x5 => ⟨w5, e5, s5, I5, (x2.trans x3.f).trans x5, kS_ext (x3.f.trans x5) h3⟩
      | ct e5 s5 =>
        rw [z] at h3
        exact fun w5 σ5 H5 I5 x5 => ⟨w5, e5, s5, I5, (x2.trans x3.f).trans x5, kS_ext (x3.f.trans x5) h3⟩
      | bk e5 s5 =>
        rw [z] at h3
        exact fun w5 σ5 H5 I5 x5 => h3 w5 σ5 H5 I5 (x3.f.trans x5)
      | rt d5 s5 =>
        rw [z] at h3
        exact fun w5 e6 σ5 v5 H5 I5 x5 => h3 w5 e6 σ5 v5 H5 I5 (x3.f.trans x5)
end
end DL

namespace DL
open PySem PySem.Spec PyProof.Rows L2
section
variable {X : Cx} {G : Gx}

/-! ### comprehensions -/
@[simp] def wipeE (e : Lcs) : List Nat → Lcs
  | [] => e
  | v :: vs => (wipeE e vs).set v .un
theorem IE.wipe1 {w : Wd} {e : Lcs} {s : Sto} {σ : L2.St} {H : Hp} (I : IE G w e s σ H) (i : Nat) : IE G w (e.set i .un) s (σ.set i none) H := by
  have nf : ∀ {j : Nat} {z : Slt}, z ≠ .un → (e.set i .un)[j]? = some z → i ≠ j ∧ e[j]? = some z := fun {j z} hz h => by
    by_cases q : i = j
    · subst q
      by_cases hi : i < e.length
      · rw [List.getElem?_set_self hi] at h; cases h; exact absurd rfl hz
      · rw [List.getElem?_eq_none (by rw [List.length_set]; omega)] at h; cases h
    · rw [List.getElem?_set_ne q] at h; exact ⟨q, h⟩
  refine ⟨by rw [List.length_set, List.length_set]; exact I.len, fun j d h => ?_, fun j ds h => ?_, fun a b q es fs k1 k2 k3 k4 => ?_, I.slen, I.cells, I.nd, I.dis, I.beg, I.o0, I.there, I.keep, I.cfresh⟩
  · obtain ⟨q, h'⟩ := nf (by simp) h
    rw [List.getElem?_set_ne q]
    exact I.slot j d h'
  · obtain ⟨q, h'⟩ := nf (by simp) h
    rw [List.getElem?_set_ne q]
    exact I.own j ds h'
  · obtain ⟨q1, h1⟩ := nf (by simp) k1
    obtain ⟨q2, h2⟩ := nf (by simp) k2
    rw [List.getElem?_set_ne q1] at k3
    rw [List.getElem?_set_ne q2] at k4
    exact I.inj a b q es fs h1 h2 k3 k4
theorem IE.wipe {w : Wd} {e : Lcs} {s : Sto} {σ : L2.St} {H : Hp} (I : IE G w e s σ H) : ∀ vs : List Nat, IE G w (wipeE e vs) s (wipe σ vs) H
  | [] => I
  | v :: vs => (IE.wipe I vs).wipe1 v
theorem wipe_get {σ : L2.St} {i : Nat} : ∀ {vs : List Nat}, i ∉ vs → (wipe σ vs)[i]? = σ[i]?
  | [], _ => rfl
  | v :: vs, h => by
    unfold L2.wipe
    rw [List.getElem?_set_ne fun (z : v = i) => h (by rw [z]; simp)]
    exact wipe_get fun z => h (List.mem_cons_of_mem _ z)
theorem wipe_in {σ : L2.St} {i : Nat} (hi : i < σ.length) : ∀ {vs : List Nat}, i ∈ vs → (wipe σ vs)[i]? = some none
  | v :: vs, h => by
    unfold L2.wipe
    by_cases z : v = i
    · subst z
      rw [List.getElem?_set_self (by rw [wipe_length]; exact hi)]
    · rw [List.getElem?_set_ne z]
      exact wipe_in hi ((List.mem_cons.mp h).resolve_left fun q => z q.symm)
theorem wipe_eq {σ σ' : L2.St} {vs : List Nat} (hl : σ'.length = σ.length) (h : ∀ i, i ∉ vs → σ'[i]? = σ[i]?) : wipe σ' vs = wipe σ vs := by
  apply List.ext_getElem?
  intro i
  by_cases hi : i ∈ vs
  · by_cases hl' : i < σ.length
    · rw [wipe_in hl' hi, wipe_in (by rw [hl]; exact hl') hi]
    · rw [List.getElem?_eq_none (by rw [wipe_length, hl]; omega), List.getElem?_eq_none (by rw [wipe_length]; omega)]
  · rw [wipe_get hi, wipe_get hi, h i hi]
@[simp] def lcL (F : FG) (C : FT) (Fe : FE) (e : Lcs) : List Dat → Sto → Res (List Dat)
  | [], s => .ok [] s
  | d :: ds, s => (F d e s).bind fun e1 s1 => (C e1 s1).bind fun b s2 => if b then (Fe e1 s2).bind fun y s3 => (lcL F C Fe e ds s3).bind fun ys s4 => .ok (y :: ys) s4 else lcL F C Fe e ds s2
@[simp] def fLc (Fi : FA) (F : FG) (C : FT) (Fe : FE) (vs : List Nat) : FE := fun e s => (Fi e s).bind fun ds s1 => if decide (ds.length < sizeLine) then (lcL F C Fe (wipeE e vs) ds s1).bind fun ys s2 => .ok (.list ys) s2 else .bad
@[simp] def cYes : FT := fun _ s => .ok true s
theorem dt_yes {σ : L2.St} {H : Hp} {Q : Bool → Hp → Prop} (h : tT G cYes σ H Q) : tYes σ H Q := by
  obtain ⟨w, e, s, I, h⟩ := h
  exact h w H I .refl
theorem PTs_imp {a : List Expr} {t t' : TT} (h : PTs X a t) (k : ∀ σ H Q, t' σ H Q → t σ H Q) : PTs X a t' := ⟨fun pins s σ H Q I q => h.run pins s σ H Q I (k _ _ _ q)⟩
theorem dts_nil : PTs X [] (tT G cYes) := PTs_imp pts_nil fun _ _ _ h => dt_yes h
theorem dts_one {c : Expr} {C : FT} (h : PT X c (tT G C)) : PTs X [c] (tT G C) := pts_one h
theorem lc_of {Fi : FA} {F : FG} {C : FT} {Fe : FE} {vs is : List Nat} (his : ∀ i ∈ is, i ∈ vs) {σ : L2.St} {H : Hp} {Q : VK} (h : tE G (fLc Fi F C Fe vs) σ H Q) : tLc (tI G Fi) (tG G is F) (tT G C) (tE G Fe) vs σ H Q := by
  obtain ⟨w, e, s, I, h⟩ := h
  refine ⟨w, e, s, I, holds_imp (holds_bind h) fun ds s1 h1 w1 H1 J I1 x1 W D hD => ?_⟩
  have hz : ds.length < sizeLine := by
    by_cases q : ds.length < sizeLine
    · exact q
    · rw [if_neg (by simpa using q)] at h1
      exact h1.elim
  rw [if_pos (by simpa using hz)] at h1
  -- the new list is the loop's own
  have lone : Lone (wipeE e vs) (wipe σ vs) D := (I1.wipe vs).lone hD
  have d0 : G.H0 D = none := I1.fresh0 hD
  have dn : ¬ w1.ow D := I1.freshO hD
  have d00 : ¬ G.O0 D := I1.freshO0 hD
  have I2 : IE G (w1.plus D) (wipeE e vs) s1 (wipe σ vs) (upd H1 D (.lst [])) := (I1.wipe vs).plus hD
  refine ⟨fun i m H2 => m = ds.length - i ∧ i ≤ ds.length ∧ ∃ w2 s2 acc avs, IE G w2 (wipeE e vs) s2 (wipe σ vs) H2 ∧ FExt w1 H1 w2 H2 ∧ w2.ow = (w1.plus D).ow ∧ (∀ a, w1.ow a → H2 a = H1 a) ∧ H2 D = some (.lst avs) ∧ RpL G.K w2.as (Fz w2 H2) acc avs ∧ acc.length ≤ i ∧
      (lcL F C Fe (wipeE e vs) (ds.drop i) s2).holds fun ys s3 => kE G w1 e σ H1 Q (.list (acc ++ ys)) s3,
    ⟨ds.length, by omega, Nat.zero_le _, w1.plus D, s1, [], [], I2, plus_f hD, rfl, fun a ha => upd_ne fun (z : a = D) => dn (by rw [← z]; exact ha), upd_same, RpL.nil, Nat.le_refl _, ?_⟩, ?_⟩
  · refine holds_imp (holds_bind h1) fun ys s2 h2 => ?_
    exact kE_ext x1 h2
  rintro i m H2 ⟨rfl, hi, w2, s2, acc, avs, J2, x2, o2, k2, hD2, ra, la, q⟩
  have owD : w2.ow D := by rw [o2]; exact .inr rfl
  by_cases hlt : i < ds.length
  · refine .inr ⟨W.go w2 H2 x2 i hlt, fun H3 => ∃ w3 s3 acc avs, IE G w3 (wipeE e vs) s3 (wipe σ vs) H3 ∧ FExt w1 H1 w3 H3 ∧ w3.ow = (w1.plus D).ow ∧ (∀ a, w1.ow a → H3 a = H1 a) ∧ H3 D = some (.lst avs) ∧ RpL G.K w3.as (Fz w3 H3) acc avs ∧ acc.length ≤ i + 1 ∧
        (lcL F C Fe (wipeE e vs) (ds.drop (i + 1)) s3).holds fun ys s4 => kE G w1 e σ H1 Q (.list (acc ++ ys)) s4, fun H3 k => ⟨ds.length - (i + 1), by omega, rfl, hlt, k⟩, fun v H3 y => ?_⟩
    obtain ⟨J3, x3, d, hd, rd⟩ := W.yld w2 _ s2 _ H2 H3 i v J2 x2 hlt y
    have ed : ds.drop i = d :: ds.drop (i + 1) := by
      rw [List.drop_eq_getElem_cons hlt]
      rw [List.getElem?_eq_getElem hlt] at hd
      cases hd
      rfl
    rw [ed] at q
    unfold lcL at q
    -- what is true behind any expression of the turn
    have on : ∀ {w5 : Wd} {H5 : Hp}, EExt w2 H2 w5 H5 → FExt w1 H1 w5 H5 ∧ w5.ow = (w1.plus D).ow ∧ (∀ a, w1.ow a → H5 a = H1 a) ∧ H5 D = some (.lst avs) ∧ RpL G.K w5.as (Fz w5 H5) acc avs := fun {w5 H5} x =>
      ⟨x2.trans x.f, x.ow.trans o2, fun a ha => (x.own a (by rw [o2]; exact .inl ha)).trans (k2 a ha), (x.own D owD).trans hD2, x.rpl ra⟩
    refine ⟨w2, wipeE e vs, s2, d, J3, rd, holds_imp (holds_bind q) fun e4 s4 h4 w4 σ4 H4 I4 x4 a4 l4 => ?_⟩
    have hw : wipe σ4 vs = wipe σ vs := by
      have e1 : wipe σ4 vs = wipe (wipe σ vs) vs := wipe_eq l4 fun j hj => a4 j fun z => hj (his j z)
      have e2 : wipe (wipe σ vs) vs = wipe σ vs := wipe_eq (wipe_length σ vs) fun j hj => wipe_get hj
      exact e1.trans e2
    refine ⟨hw, w4, e4, s4, I4, holds_imp (holds_bind h4) fun b s5 h5 w5 H5 I5 x5 => ?_⟩
    have x25 := x3.trans (x4.trans x5)
    cases b with
    | true =>
      simp only [if_true] at h5
      refine iteT ⟨w5, e4, s5, I5, holds_imp (holds_bind h5) fun y s6 h6 w6 yv H6 I6 x6 r6 => ?_⟩
      have x26 := x25.trans x6
      obtain ⟨g1, g2, g3, g4, g5⟩ := on x26
      refine ⟨avs, g4, by rw [ra.length]; omega, ?_⟩
      have J6 : IE G w6 (wipeE e vs) s6 (wipe σ vs) H6 := J2.re x26 I6
      have ow6 : w6.ow D := by rw [g2]; exact .inr rfl
      refine ⟨w6, s6, acc ++ [y], avs ++ [yv], J6.write ow6 d0 lone, g1.trans (write_f ow6), g2, fun a ha => ?_, upd_same, ?_, by simp; omega, ?_⟩
      · rw [upd_ne fun (z : a = D) => dn (by rw [← z]; exact ha)]
        exact g3 a ha
      · rw [Fz_own ow6]
        exact g5.append (RpL.one r6)
      · refine holds_imp (holds_bind h6) fun ys s7 h7 => ?_
        have h7' : kE G w1 e σ H1 Q (.list (acc ++ (y :: ys))) s7 := h7
        rw [List.append_assoc]
        exact h7'
    | false =>
      simp only [Bool.false_eq_true, if_false] at h5
      obtain ⟨g1, g2, g3, g4, g5⟩ := on x25
      exact iteF ⟨w5, s5, acc, avs, J2.re x25 I5, g1, g2, g3, g4, g5, by omega, h5⟩
  · have e0 : ds.drop i = [] := List.drop_eq_nil_of_le (by omega)
    rw [e0] at q
    refine .inl ⟨W.stop w2 H2 x2 i (by omega), ?_⟩
    have q' : kE G w1 e σ H1 Q (.list (acc ++ [])) s2 := q
    rw [List.append_nil] at q'
    -- the list is no one's own any more
    have sm2 : Same (Fz w2 H2) (Fz ⟨w2.as, w1.ow⟩ H2) := fun a o h => by
      obtain ⟨z1, z2, z3⟩ := Fz_get h
      exact Fz_of z1 z2 fun z => z3 (by rw [o2]; exact .inl z)
    have ex : EExt w1 H1 ⟨w2.as, w1.ow⟩ H2 := ⟨x2.beg, x2.same.trans sm2, rfl, k2⟩
    have J : IE G ⟨w2.as, w1.ow⟩ (wipeE e vs) s2 (wipe σ vs) H2 := by
      refine ⟨J2.len, fun j d h => ?_, fun j es h => ?_, J2.inj, J2.slen, fun n es h => ?_, J2.nd, fun a ha z => J2.dis a ha (by rw [o2]; exact .inl z), J2.beg, fun a ha => ?_, fun a ha => J2.there a (by rw [o2]; exact .inl ha), J2.keep, J2.cfresh⟩
      · obtain ⟨v, z1, z2⟩ := J2.slot j d h
        exact ⟨v, z1, Rp.mono (.refl _) sm2 _ _ z2⟩
      · obtain ⟨p, us, z1, z2, z3, z4, z5, z6⟩ := J2.own j es h
        refine ⟨p, us, z1, ?_, z3, z4, z5, RpL.mono (.refl _) sm2 _ _ z6⟩
        rw [o2] at z2
        rcases z2 with z2 | z2
        · exact z2
        · subst z2; exact absurd z1 (lone j es h)
      · obtain ⟨a, us, z1, z2, z3⟩ := J2.cells n es h
        exact ⟨a, us, z1, z2, RpL.mono (.refl _) sm2 _ _ z3⟩
      · exact I1.o0 a ha
    refine q' ⟨w2.as, w1.ow⟩ (.ref D) H2 (I1.re ex J) ex ?_
    simp only [Rp]
    exact ⟨D, avs, rfl, Fz_of hD2 (fun z => J2.dis D z owD) dn, RpL.mono (.refl _) sm2 _ _ ra⟩
theorem de_lc {elt tg iter : Expr} {ifs : List Expr} {scope : Scope} {own : List (Str × Nat)} {pos : Pos} {Fi : FA} {F : FG} {C : FT} {Fe : FE} {is : List Nat} (hc : X.calm = true) (hN : X.N.Nodup) (ok : BlkOk X.N X.env.scope scope own) (hi : PI X tg iter (tI G Fi))
    (hg : ∀ (s : Shared) (H : Hp) (A : Addr) (cl : List (Str × Addr)) (fp : List Addr), PG (X.blk s H scope (compEnvC scope cl A X.env) fp) tg (tG G is F)) (ht : ∀ (s : Shared) (H : Hp) (A : Addr) (cl : List (Str × Addr)) (fp : List Addr), PTs (X.blk s H scope (compEnvC scope cl A X.env) fp) ifs (tT G C))
    (he : ∀ (s : Shared) (H : Hp) (A : Addr) (cl : List (Str × Addr)) (fp : List Addr), PE (X.blk s H scope (compEnvC scope cl A X.env) fp) elt (tE G Fe)) (his : ∀ i ∈ is, i ∈ own.map (·.2) := by decide) (hs : ∀ x, foldedSetIterable iter X.env x = pure x := by intro _; rfl) :
    PE X (.ListComp elt [⟨tg, iter, ifs, 0⟩] scope pos) (tE G (fLc Fi F C Fe (own.map (·.2)))) := PE_imp (pe_lc hc hN hi ok hg ht he hs) fun _ _ _ h => lc_of his h
theorem ds_setLc (i : Nat) {y : Str} {py : Pos} {elt tg iter : Expr} {ifs : List Expr} {scope : Scope} {own : List (Str × Nat)} {pos spos : Pos} {Fi : FA} {F : FG} {C : FT} {Fe : FE} {is : List Nat} (hc : X.calm = true) (hN : X.N.Nodup) (ok : BlkOk X.N X.env.scope scope own)
    (hsw : swapsWith (.ListComp elt [⟨tg, iter, ifs, 0⟩] scope pos) (some (.Name y py)) spos.line X.env = pure true) (hi : PI X tg iter (tI G Fi))
    (hg : ∀ (s : Shared) (H : Hp) (A : Addr) (cl : List (Str × Addr)) (fp : List Addr), PG (X.blk s H scope (compEnvC scope cl A X.env) fp) tg (tG G is F)) (ht : ∀ (s : Shared) (H : Hp) (A : Addr) (cl : List (Str × Addr)) (fp : List Addr), PTs (X.blk s H scope (compEnvC scope cl A X.env) fp) ifs (tT G C))
    (he : ∀ (s : Shared) (H : Hp) (A : Addr) (cl : List (Str × Addr)) (fp : List Addr), PE (X.blk s H scope (compEnvC scope cl A X.env) fp) elt (tE G Fe)) (hy : X.N[i]? = some y := by rfl) (hyl : X.env.scope.names.lookup y = some .local := by rfl)
    (his : ∀ i ∈ is, i ∈ own.map (·.2) := by decide) (hs : ∀ x, foldedSetIterable iter X.env x = pure x := by intro _; rfl) :
    PS X (.Assign [.Name y py] (.ListComp elt [⟨tg, iter, ifs, 0⟩] scope pos) spos) (tS G (sSet i (fLc Fi F C Fe (own.map (·.2))))) :=
  PS_imp (ps_setLc hc hN hy hyl hsw hi ok hg ht he hs) fun D σ H h => by
    obtain ⟨w, e, s, I, h'⟩ := tAsg_of (is := [i]) h
    exact lc_of his ⟨w, e, s, I, holds_imp h' fun d s1 k w1 v H1 I1 x1 r1 => gName_of (k w1 v H1 I1 x1 r1) (by simp)⟩

/-! ### defs -/
structure CI (K : PySem.W.Frag) (w : Wd) (s : Sto) (H : Hp) : Prop where
  slen : w.as.length = s.length
  cells : ∀ (n : Nat) ds, s[n]? = some (.ls ds) → ∃ a vs, w.as[n]? = some a ∧ H a = some (.lst vs) ∧ RpL K w.as (Fz w H) ds vs
  nd : w.as.Nodup
  dis : ∀ a ∈ w.as, ¬ w.ow a
  there : ∀ a, w.ow a → H a ≠ none
/-- a def that hands back what g says of its arguments and the cells -/
def spF (K : PySem.W.Frag) (g : List Dat → Sto → Res Dat) : Sp := fun vs H Q _ => ∃ w ds s, CI K w s H ∧ RpL K w.as (Fz w H) ds vs ∧ (g ds s).holds fun d s' =>
  ∀ w' v H', w'.ow = w.ow → Beg w.as w'.as → CI K w' s' H' → Same (Fz w H) (Fz w' H') → (∀ a o, H a = some o → a ∉ w.as → H' a = some o) → (∀ a, a ∈ w'.as → a ∉ w.as → H a = none) → Rp K w'.as (Fz w' H') d v → Q v H'
theorem IE.ci {w : Wd} {e : Lcs} {s : Sto} {σ : L2.St} {H : Hp} (I : IE G w e s σ H) : CI G.K w s H := ⟨I.slen, I.cells, I.nd, I.dis, I.there⟩
@[simp] def runF (n m : Nat) (F : FS) : List Dat → Sto → Res Dat := fun ds s => if ds.length = n then (match F (ds.map Slt.fz ++ List.replicate (m - n) Slt.un) s with
  | .nx _ s' => .ok .none s'
  | .rt d s' => .ok d s'
  | _ => .bad) else .bad
theorem de_call {x : Str} {p pos : Pos} {a : Expr} {es : List Expr} {CX : CXT} {k : Nat} {f : Addr} {fd : FuncData} {ps : List Str} {g : List Dat → Sto → Res Dat} {Fs : FA} {E : XK} (GF : FnOk X.prog X.w X.K X.mg X.base CX k f fd ps (spF G.K g)) (hr : Room k X.A)
    (hm : X.mg x = some (.ref f)) (hk : PySem.W.keepIn X.K (.ref f) = true) (hb : Binds X.K fd ps []) (hx : Passes CX X E) (ha : PA X (a :: es) (tA G Fs)) (hg : Gl X x := by rfl) (hdb : (x == ("__debug__" : Str)) = false := by decide)
    (he : starEach (a :: es) X.env = (false, eval a X.env) :: starEach es X.env := by rfl) (hpl : (backTo pos (starEach es X.env)).any (·.1) = false := by rfl) : PE X (.Call (.Name x p) (a :: es) [] pos) (tE G (fCall g Fs)) :=
  PE_imp (pe_call GF hr hg hm hk hb .nil hx ha hdb he hpl) fun σ H Q ⟨w, e, s, I, h⟩ => by
    unfold fCall at h
    cases q : Fs e s with
    | bad => rw [q] at h; exact h.elim
    | ok ds s1 =>
      rw [q] at h
      refine ⟨w, e, s, I, ?_⟩
      rw [q]
      intro w1 vs H1 I1 x1 r1
      refine ⟨w1, ds, s1, I1.ci, by rw [List.append_nil]; exact r1, holds_imp h fun d s2 h2 w2 v H2 o2 b2 c2 sm2 kp2 nw2 r2 => ?_⟩
      have ex : EExt w1 H1 w2 H2 := ⟨b2, sm2, o2, fun b hb => by
        cases z : H1 b with
        | none => exact absurd z (I1.there b hb)
        | some o => exact kp2 b o z fun y => I1.dis b y hb⟩
      refine h2 w2 v H2 ?_ (x1.trans ex) r2
      refine I1.re ex (e2 := []) (σ2 := []) ⟨rfl, fun i d h => by simp at h, fun i d h => by simp at h, fun i j p ds es h => by simp at h, c2.slen, c2.cells, c2.nd, c2.dis, I1.beg.trans b2, fun b hb => by rw [o2]; exact I1.o0 b hb, c2.there, fun b o h0 hb => ?_, fun b hb hb0 => ?_⟩
      · refine kp2 b o (I1.keep b o h0 hb) fun z => ?_
        have := I1.cfresh b z hb
        rw [h0] at this; cases this
      · by_cases z : b ∈ w1.as
        · exact I1.cfresh b z hb0
        · exact I1.fresh0 (nw2 b hb z)
theorem start_get {N : List Str} {vs : List V} {i : Nat} {v : V} (h : vs[i]? = some v) : (L2.start N vs)[i]? = some (some v) := by
  unfold L2.start
  rw [List.getElem?_append_left (by rw [List.length_map]; exact (List.getElem?_eq_some_iff.mp h).1), List.getElem?_map, h]; rfl
theorem ie_start {K : PySem.W.Frag} {w : Wd} {s : Sto} {H : Hp} {N : List Str} {ds : List Dat} {vs : List V} (c : CI K w s H) (r : RpL K w.as (Fz w H) ds vs) (hl : ds.length ≤ N.length) :
    IE ⟨K, H, w.as, w.ow⟩ w (ds.map Slt.fz ++ List.replicate (N.length - ds.length) Slt.un) s (L2.start N vs) H := by
  have look : ∀ {i : Nat} {z : Slt}, (ds.map Slt.fz ++ List.replicate (N.length - ds.length) Slt.un)[i]? = some z → z = .un ∨ ∃ d, z = .fz d ∧ ds[i]? = some d := fun {i z} h => by
    by_cases hi : i < ds.length
    · rw [List.getElem?_append_left (by rw [List.length_map]; exact hi), List.getElem?_map, List.getElem?_eq_getElem hi] at h
      cases h
      exact .inr ⟨_, rfl, List.getElem?_eq_getElem hi⟩
    · rw [List.getElem?_append_right (by rw [List.length_map]; omega), List.getElem?_replicate] at h
      split at h
      · cases h; exact .inl rfl
      · cases h
  refine ⟨?_, fun i d h => ?_, fun i es h => ?_, fun i j p es fs h => ?_, c.slen, c.cells, c.nd, c.dis, .refl _, fun _ h => h, c.there, fun _ _ h _ => h, fun a h h' => absurd h h'⟩
  · unfold L2.start
    rw [List.length_append, List.length_append, List.length_map, List.length_map, List.length_replicate, List.length_replicate, r.length]
  · rcases look h with z | ⟨d', z, h'⟩
    · cases z
    · cases z
      obtain ⟨v, h1, h2⟩ := r.get' h'
      exact ⟨v, start_get h1, h2⟩
  · rcases look h with z | ⟨d', z, _⟩ <;> cases z
  · rcases look h with z | ⟨d', z, _⟩ <;> cases z
/-- THE RULE for a def that lets out no exception -/
theorem def_ok {P : Program} {wd : World} {K : PySem.W.Frag} {mg : Str → Option Value} {base : Heap} {x qual : Str} {st : Stmt} {f : Addr} {fd : FuncData} {N ps : List Str} {k : Nat} {F : FS} (D : Fun K x qual st f fd) (S : FnScope N ps (defScope st)) (hl : ps.length ≤ N.length)
    (hbody : ∀ (cdv : Value) (A : Around) (outer : List Env) (s : Shared) (H : Hp) (E : XK) (H0 : Hp) (as0 : List Addr) (O0 : Addr → Prop), Room k (A.deeper (envOfC qual (defScope st) s.heap.objs.size f cdv)) → PSs (cxOf CX0 P wd K mg base N qual (defScope st) f cdv A outer s H E).nox (defBody st) (tS ⟨K, H0, as0, O0⟩ F)) :
    FnOk P wd K mg base CX0 (k + 1) f fd ps (spF K (runF ps.length N.length F)) := by
  have hlen : ∀ vs H Q E, spF K (runF ps.length N.length F) vs H Q E → vs.length = ps.length := fun vs H Q E h => by
    obtain ⟨w, ds, st0, c, r, h⟩ := h
    unfold runF at h
    split at h
    · rename_i hd
      rw [r.length]; exact hd
    · exact h.elim
  refine D.ok S hlen fun cdv A outer s H vs Q E hr h => ?_
  have hv := hlen vs H Q E h
  obtain ⟨w, ds, st0, c, r, h⟩ := h
  refine ⟨_, hbody cdv A outer s H E H w.as w.ow hr, ?_⟩
  have hd : ds.length = ps.length := by rw [← r.length]; exact hv
  unfold runF at h
  rw [if_pos hd] at h
  have I := ie_start (N := N) c r (by rw [hd]; exact hl)
  rw [hd] at I
  refine ⟨w, _, st0, I, ?_⟩
  -- behind the body: the def's own lists stand still
  have fin : ∀ {e' : Lcs} {s' : Sto} {σ' : L2.St} {w' : Wd} {H' : Hp} {d : Dat} {v : V}, IE ⟨K, H, w.as, w.ow⟩ w' e' s' σ' H' → Rp K w'.as (Fz w' H') d v →
      (∀ w' v H', w'.ow = w.ow → Beg w.as w'.as → CI K w' s' H' → Same (Fz w H) (Fz w' H') → (∀ a o, H a = some o → a ∉ w.as → H' a = some o) → (∀ a, a ∈ w'.as → a ∉ w.as → H a = none) → Rp K w'.as (Fz w' H') d v → Q v H') → Q v H' := fun {e' s' σ' w' H' d v} J rv hq => by
    have sm : Same (Fz w' H') (Fz ⟨w'.as, w.ow⟩ H') := fun a o h => by
      obtain ⟨z1, z2, z3⟩ := Fz_get h
      exact Fz_of z1 z2 fun z => z3 (J.o0 a z)
    have kp : ∀ a o, H a = some o → a ∉ w.as → H' a = some o := J.keep
    refine hq ⟨w'.as, w.ow⟩ v H' rfl J.beg ⟨J.slen, fun n es h => ?_, J.nd, fun a ha z => J.dis a ha (J.o0 a z), fun a ha => J.there a (J.o0 a ha)⟩ (fun a o h => ?_) kp J.cfresh (Rp.mono (.refl _) sm _ _ rv)
    · obtain ⟨a, us, z1, z2, z3⟩ := J.cells n es h
      exact ⟨a, us, z1, z2, RpL.mono (.refl _) sm _ _ z3⟩
    · obtain ⟨z1, z2, z3⟩ := Fz_get h
      refine Fz_of (kp a o z1 z2) (fun z => ?_) z3
      have := J.cfresh a z z2
      have z1' : H a = some o := z1
      rw [show H a = none from this] at z1'
      cases z1'
  cases q : F (ds.map Slt.fz ++ List.replicate (N.length - ps.length) Slt.un) st0 with
  | bad => rw [q] at h; exact h
  | nx e1 s1 =>
    rw [q] at h
    exact fun w1 σ1 H1 I1 x1 => fin I1 (rp_n) h
  | bk e1 s1 => rw [q] at h; exact h.elim
  | ct e1 s1 => rw [q] at h; exact h.elim
  | rt d s1 =>
    rw [q] at h
    exact fun w1 e1 σ1 v H1 I1 x1 r1 => fin I1 r1 h
end
end DL

namespace DL
open PySem PySem.Spec PyProof.Rows L2
section
variable {X : Cx} {G : Gx}

/-! ### cells: lists that several defs share -/
section
variable {w : Wd} {e : Lcs} {s : Sto} {σ : L2.St} {H : Hp}
theorem Fz_cell {p : Addr} {o : HO} (hp : H p = none) : Fz ⟨w.as ++ [p], w.ow⟩ (upd H p o) = Fz w H := by
  funext a
  unfold Fz
  by_cases ha : a = p
  · subst ha
    rw [if_pos (.inl (by simp))]
    split
    · rfl
    · rw [hp]
  · by_cases h : a ∈ w.as ∨ w.ow a
    · rw [if_pos h, if_pos (h.elim (fun q => .inl (List.mem_append_left _ q)) .inr)]
    · rw [if_neg h, if_neg (by
        rintro (q | q)
        · rcases List.mem_append.mp q with q | q
          · exact h (.inl q)
          · exact ha (by simpa using q)
        · exact h (.inr q)), upd_ne ha]
theorem IE.newCell (I : IE G w e s σ H) {p : Addr} {vs : List V} {ds : List Dat} (hp : H p = none) (r : RpL G.K w.as (Fz w H) ds vs) : IE G ⟨w.as ++ [p], w.ow⟩ e (s ++ [.ls ds]) σ (upd H p (.lst vs)) := by
  have ef : Fz ⟨w.as ++ [p], w.ow⟩ (upd H p (.lst vs)) = Fz w H := Fz_cell hp
  have hb : Beg w.as (w.as ++ [p]) := ⟨[p], rfl⟩
  have hx : ∀ {a : Addr} {u : HO}, H a = some u → upd H p (.lst vs) a = some u := fun {a u} h => by rw [upd_ne (ne_of_none h hp)]; exact h
  refine ⟨I.len, fun i d h => ?_, fun i ds h => ?_, I.inj, by simp [I.slen], fun n es h => ?_, ?_, fun a ha => ?_, I.beg.trans hb, I.o0, fun a h => ?_, fun a u h h' => hx (I.keep a u h h'), fun a ha h0 => ?_⟩
  · obtain ⟨v, h1, h2⟩ := I.slot i d h
    exact ⟨v, h1, by rw [ef]; exact Rp.mono hb (.refl _) _ _ h2⟩
  · obtain ⟨q, us, h1, h2, h3, h4, h5, h6⟩ := I.own i ds h
    exact ⟨q, us, h1, h2, h3, h4, hx h5, by rw [ef]; exact RpL.mono hb (.refl _) _ _ h6⟩
  · by_cases hn : n < s.length
    · rw [List.getElem?_append_left hn] at h
      obtain ⟨a, us, h1, h2, h3⟩ := I.cells n es h
      exact ⟨a, us, hb.get h1, hx h2, by rw [ef]; exact RpL.mono hb (.refl _) _ _ h3⟩
    · rw [List.getElem?_append_right (by omega)] at h
      have hn2 : n = s.length := by
        by_cases q : n - s.length = 0
        · omega
        · rw [List.getElem?_eq_none (by simp; omega)] at h; cases h
      subst hn2
      simp at h
      subst h
      exact ⟨p, vs, by rw [List.getElem?_append_right (by rw [I.slen]; exact Nat.le_refl _)]; simp [I.slen], upd_same, by rw [ef]; exact RpL.mono hb (.refl _) _ _ r⟩
  · rw [List.nodup_append]
    refine ⟨I.nd, by simp, fun a ha b hb2 z => ?_⟩
    have : b = p := by simpa using hb2
    subst this; subst z
    exact I.freshA hp ha
  · rcases List.mem_append.mp ha with q | q
    · exact I.dis a q
    · have : a = p := by simpa using q
      subst this
      exact I.freshO hp
  · cases z : H a with
    | none => exact absurd z (I.there a h)
    | some u => rw [hx z]; simp
  · rcases List.mem_append.mp ha with q | q
    · exact I.cfresh a q h0
    · have : a = p := by simpa using q
      subst this
      exact I.fresh0 hp
theorem Fz_mem {p : Addr} {o : HO} (hp : p ∈ w.as) : Fz w (upd H p o) = Fz w H := by
  funext a
  unfold Fz
  by_cases h : a ∈ w.as ∨ w.ow a
  · rw [if_pos h, if_pos h]
  · rw [if_neg h, if_neg h]
    exact upd_ne fun z => by subst z; exact h (.inl hp)
theorem IE.writeCell (I : IE G w e s σ H) {n : Nat} {p : Addr} {vs : List V} {ds : List Dat} (hn : w.as[n]? = some p) (r : RpL G.K w.as (Fz w H) ds vs) : IE G w e (s.set n (.ls ds)) σ (upd H p (.lst vs)) := by
  have hm : p ∈ w.as := List.mem_of_getElem? hn
  have ef : Fz w (upd H p (.lst vs)) = Fz w H := Fz_mem hm
  have hns : n < s.length := by rw [← I.slen]; exact (List.getElem?_eq_some_iff.mp hn).1
  refine ⟨I.len, fun i d h => ?_, fun i ds h => ?_, I.inj, by rw [List.length_set]; exact I.slen, fun m es h => ?_, I.nd, I.dis, I.beg, I.o0, fun a h => ?_, fun a u h h' => ?_, I.cfresh⟩
  · obtain ⟨v, h1, h2⟩ := I.slot i d h
    exact ⟨v, h1, by rw [ef]; exact h2⟩
  · obtain ⟨q, us, h1, h2, h3, h4, h5, h6⟩ := I.own i ds h
    have : q ≠ p := fun z => by subst z; exact I.dis q hm h2
    exact ⟨q, us, h1, h2, h3, h4, by rw [upd_ne this]; exact h5, by rw [ef]; exact h6⟩
  · by_cases z : n = m
    · subst z
      rw [List.getElem?_set_self hns] at h; cases h
      exact ⟨p, vs, hn, upd_same, by rw [ef]; exact r⟩
    · rw [List.getElem?_set_ne z] at h
      obtain ⟨a, us, h1, h2, h3⟩ := I.cells m es h
      have : a ≠ p := fun y => by
        subst y
        exact z (nd_ix I.nd hn h1)
      exact ⟨a, us, h1, by rw [upd_ne this]; exact h2, by rw [ef]; exact h3⟩
  · by_cases z : a = p
    · subst z; rw [upd_same]; simp
    · rw [upd_ne z]; exact I.there a h
  · have : a ≠ p := fun z => by
      subst z
      have := I.cfresh a hm h'
      rw [h] at this; cases this
    rw [upd_ne this]
    exact I.keep a u h h'
end
/-- x = [..], a cell -/
@[simp] def sCell (i : Nat) (Fs : FA) : FS := fun e s => (Fs e s).flo fun ds s1 => if i < e.length ∧ ds.length ≤ sizeLine then .nx (e.set i (.fz (cel s1.length))) (s1 ++ [.ls ds]) else .bad
theorem ds_setCell (i : Nat) {y : Str} {es : List Expr} {pos pos' pos2 : Pos} {Fs : FA} (hN : X.N.Nodup) (ha : PA X es (tA G Fs)) (hi : X.N[i]? = some y := by rfl) (hx : Loc X.env.scope y := by first | exact Or.inl rfl | exact Or.inr rfl) (hs : swapsWith (.List es pos2) (some (.Name y pos')) pos.line X.env = pure false := by rfl)
    (hf : X.fn y = true ∨ X.env.scope.names.lookup y = some .local := by first | exact .inl rfl | exact .inr rfl) : PS X (.Assign [.Name y pos'] (.List es pos2) pos) (tS G (sCell i Fs)) :=
  PS_imp (ps_set hN hi hx (pe_lst ha) hs hf) fun D σ H ⟨w, e, s, I, h⟩ => by
    refine ⟨w, e, s, I, holds_imp (flo_holds h) fun ds s1 h1 w1 vs H1 I1 x1 r1 => ?_⟩
    split at h1
    · rename_i c
      refine ⟨by rw [r1.length]; exact c.2, fun p hp => ?_⟩
      refine h1 ⟨w1.as ++ [p], w1.ow⟩ _ _ ((I1.newCell hp r1).set c.1 ?_) (x1.f.trans ⟨⟨[p], rfl⟩, by rw [Fz_cell hp]; exact .refl _⟩)
      unfold cel
      simp only [Rp]
      refine ⟨p, rfl, ?_⟩
      rw [← I1.slen]
      simp
    · exact h1.elim
/-- x[k] = v, x a cell -/
@[simp] def sItem (Fo Fi Fv : FE) : FS := fun e s => (Fv e s).flo fun d s1 => (Fo e s1).flo fun o s2 => (Fi e s2).flo fun k s3 => match o, k with
  | .dict [(.int n, .none)], .int j => match s3[n.toNat]? with
    | some (.ls ds) => match ixN ds.length j with
      | some m => .nx e (s3.set n.toNat (.ls (ds.set m d)))
      | none => .bad
    | none => .bad
  | _, _ => .bad
theorem ds_item {o i v : Expr} {pos p2 : Pos} {Fo Fi Fv : FE} (hv : PE X v (tE G Fv)) (ho : PE X o (tE G Fo)) (hi : PE X i (tE G Fi)) (ha : ∀ u, assign (.Subscript o i p2) X.env u = (do
      let ov ← holding [u] (eval o X.env)
      let iv ← holding [u, ov] (eval i X.env)
      standAt p2
      holding [u, ov, iv] (setItem ov iv u)
      release [u, ov, iv] []) := by intro _; rfl) (hs : swapsWithSole [.Subscript o i p2] v pos.line X.env = pure false := by rfl) (hw : swappedStores [.Subscript o i p2] v X.env = pure none := by rfl)
    (h1 : (assignEach [.Subscript o i p2] X.env).map (·.2) = [assign (.Subscript o i p2) X.env] := by rfl) : PS X (.Assign [.Subscript o i p2] v pos) (tS G (sItem Fo Fi Fv)) :=
  PS_imp (ps_asg hv (pg_sub ho hi set_list ha) hs hw h1) fun D σ H ⟨w, e, s, I, h⟩ => by
    refine ⟨w, e, s, I, holds_imp (flo_holds h) fun d s1 h1 w1 dv H1 I1 x1 r1 => ?_⟩
    refine ⟨w1, e, s1, I1, holds_imp (flo_holds h1) fun ov s2 h2 w2 ovv H2 I2 x2 r2 => ?_⟩
    refine ⟨w2, e, s2, I2, holds_imp (flo_holds h2) fun k s3 h3 w3 kv H3 I3 x3 r3 => ?_⟩
    split at h3
    · rename_i n j
      split at h3
      · rename_i ds hds
        split at h3
        · rename_i m hm
          have r2' : ∃ a, ovv = .ref a ∧ w2.as[n.toNat]? = some a := by simpa [Rp] using r2
          obtain ⟨p, rfl, hp⟩ := r2'
          have hp3 := x3.beg.get hp
          obtain ⟨a', vs, e1, e2, e3⟩ := I3.cells _ _ hds
          rw [hp3] at e1; cases e1
          refine ⟨p, vs, j, m, rfl, rp_int r3, e2, by rw [e3.length]; exact hm, ?_⟩
          have rd := (x2.trans x3).rp r1
          exact h3 w3 σ _ (I3.writeCell hp3 (e3.set m rd)) ((x1.trans (x2.trans x3)).f.trans ⟨.refl _, by rw [Fz_mem (List.mem_of_getElem? hp3)]; exact .refl _⟩)
        · exact h3.elim
      · exact h3.elim
    · exact h3.elim

/-! ### a local's own list -/
/-- x = [..], to be grown -/
@[simp] def sOwn (i : Nat) (Fs : FA) : FS := fun e s => (Fs e s).flo fun ds s1 => if i < e.length ∧ ds.length ≤ sizeLine then .nx (e.set i (.ow ds)) s1 else .bad
theorem ds_setOwn (i : Nat) {y : Str} {es : List Expr} {pos pos' pos2 : Pos} {Fs : FA} (hN : X.N.Nodup) (ha : PA X es (tA G Fs)) (hi : X.N[i]? = some y := by rfl) (hx : Loc X.env.scope y := by first | exact Or.inl rfl | exact Or.inr rfl) (hs : swapsWith (.List es pos2) (some (.Name y pos')) pos.line X.env = pure false := by rfl)
    (hf : X.fn y = true ∨ X.env.scope.names.lookup y = some .local := by first | exact .inl rfl | exact .inr rfl) : PS X (.Assign [.Name y pos'] (.List es pos2) pos) (tS G (sOwn i Fs)) :=
  PS_imp (ps_set hN hi hx (pe_lst ha) hs hf) fun D σ H ⟨w, e, s, I, h⟩ => by
    refine ⟨w, e, s, I, holds_imp (flo_holds h) fun ds s1 h1 w1 vs H1 I1 x1 r1 => ?_⟩
    split at h1
    · rename_i c
      refine ⟨by rw [r1.length]; exact c.2, fun p hp => ?_⟩
      refine h1 (w1.plus p) _ _ ((I1.plus hp).setOwn c.1 (.inr rfl) (I1.fresh0 hp) (I1.freshO0 hp) (I1.lone hp) upd_same ?_) (x1.f.trans (plus_f hp))
      rw [Fz_plus hp]
      exact r1
    · exact h1.elim
/-- x.append(v), x.extend(v) -/
@[simp] def sAppend (i : Nat) (Fa : FE) : FS := fun e s => (Fa e s).flo fun d s1 => match e[i]? with
  | some (.ow ds) => if ds.length < sizeLine then .nx (e.set i (.ow (ds ++ [d]))) s1 else .bad
  | _ => .bad
theorem tyV_lst {w : Wd} {e : Lcs} {s : Sto} {σ : L2.St} {H : Hp} {K : PySem.W.Frag} {p : Addr} {vs : List V} (h : H p = some (.lst vs)) : tyV K "list" (.ref p) H := Or.inl ⟨rfl, _, Or.inl (Or.inl h)⟩
theorem ds_append (i : Nat) {x : Str} {a : Expr} {px apos cpos pos : Pos} {Fa : FE} (ha : PE X a (tE G Fa)) (hi : X.N[i]? = some x := by rfl) (hx : Vis X.env.scope x := by first | exact Or.inl rfl | exact Or.inr (Or.inl rfl) | exact Or.inr (Or.inr rfl)) (hd : (x == ("__debug__" : Str)) = false := by decide) (hcd : (x == ("__classdict__" : Str)) = false := by decide)
    (hsw : swapsWith (.Call (.Attribute (.Name x px) "append" apos) [a] [] cpos) none pos.line X.env = pure false := by rfl)
    (hbase : attributeBase (.Name x px) "append" X.env (eval (.Name x px) X.env) = eval (.Name x px) X.env := by rfl)
    (hfew : ((backTo cpos (starEach [a] X.env)).all (fun x => !x.1) && (backToKw cpos (keywordEach [] X.env)).all (fun x => x.1.isSome)
      && decide (([a] : List Expr).length + ([] : List Keyword).length + (if ([] : List Keyword).isEmpty then 0 else 1) < 30)) = true := by rfl)
    (hline : (apos.endLine == cpos.line) = true := by rfl) (hs1 : starEach [a] X.env = (false, eval a X.env) :: starEach [] X.env := by rfl) (hplain : (backTo cpos (starEach [] X.env)).any (·.1) = false := by rfl) :
    PS X (.Expr (.Call (.Attribute (.Name x px) "append" apos) [a] [] cpos) pos) (tS G (sAppend i Fa)) :=
  PS_imp (ps_expr (pe_bm PySem.F.plainAttrs_list PySem.F.slot_list_append PySem.F.type_list_append mt_append (pe_var (i := i) hi hx hd hcd) (pa_cons ha pa_nil hs1) hbase hfew hline hs1 hplain) hsw) fun D σ H ⟨w, e, s, I, h⟩ => by
    unfold sAppend at h
    -- the list stands ahead of the argument
    have hown : ∃ ds, e[i]? = some (.ow ds) := by
      cases q : Fa e s with
      | bad => rw [q] at h; exact h.elim
      | ok d s1 =>
        rw [q] at h
        simp only [flo_ok] at h
        split at h
        · rename_i ds hds
          exact ⟨ds, hds⟩
        · exact h.elim
    obtain ⟨ds, hds⟩ := hown
    obtain ⟨p, vs, g1, g2, g3, g4, g5, g6⟩ := I.own i ds hds
    refine ⟨.ref p, g1, Or.inl ⟨rfl, _, Or.inl (Or.inl g5)⟩, w, e, s, I, holds_imp (flo_holds h) fun d s1 h1 w1 v H1 I1 x1 r1 => ?_⟩
    rw [hds] at h1
    simp only at h1
    split at h1
    · rename_i c
      obtain ⟨p', vs', k1, k2, k3, k4, k5, k6⟩ := I1.own i ds hds
      rw [g1] at k1; cases k1
      refine ⟨p, vs', v, rfl, rfl, k5, by rw [k6.length]; exact c, ?_⟩
      refine h1 w1 σ _ (I1.writeOwn hds g1 (k6.append (RpL.one r1))) (x1.f.trans (write_f k2))
    · exact h1.elim
end
end DL

namespace DL
open PySem PySem.Spec PyProof.Rows L2
section
variable {X : Cx} {G : Gx}
theorem room65 {k : Nat} {A : Around} (hr : Room k A) : A.units + 65 < cLine := by have := hr.un; omega

/-! ### in -/
def rInT (K : PySem.W.Frag) : R2 := fun x y H Q => ∃ d ds, Dp K H x d ∧ Dp K H y (.tuple ds) ∧ SeqAt.shaped d = true ∧ SeqAt.shaped (.tuple ds) = true ∧ Q (.bl (ds.any fun z => PyData.eqv z d)) H
def rNotInT (K : PySem.W.Frag) : R2 := fun x y H Q => ∃ d ds, Dp K H x d ∧ Dp K H y (.tuple ds) ∧ SeqAt.shaped d = true ∧ SeqAt.shaped (.tuple ds) = true ∧ Q (.bl (!ds.any fun z => PyData.eqv z d)) H
theorem op_inT (hu : X.A.units + 65 < cLine) : OpR X (compareOp .In) (rInT X.K) := fun pins s σ H x y v u Q I rx ry ⟨d, ds, hd, he, sd, se, q⟩ => by
  obtain ⟨bs, k1⟩ := Dp.reads I d x v hd rx
  obtain ⟨as, k2⟩ := Dp.reads I (.tuple ds) y u he ry
  exact SeqAt.in_tuple_reads k2 k1 (SeqAt.canLay_of_shaped (d := .tuple ds) se) (SeqAt.canLay_of_shaped sd) (room_in_shaped sd hu) ⟨.bl _, H, I, rfl, q⟩
theorem op_notInT (hu : X.A.units + 65 < cLine) : OpR X (compareOp .NotIn) (rNotInT X.K) := fun pins s σ H x y v u Q I rx ry ⟨d, ds, hd, he, sd, se, q⟩ => by
  obtain ⟨bs, k1⟩ := Dp.reads I d x v hd rx
  obtain ⟨as, k2⟩ := Dp.reads I (.tuple ds) y u he ry
  exact SeqAt.notIn_tuple_reads k2 k1 (SeqAt.canLay_of_shaped (d := .tuple ds) se) (SeqAt.canLay_of_shaped sd) (room_in_shaped sd hu) ⟨.bl _, H, I, rfl, q⟩
def inStr (i j : Str) : Bool := !(Builtin.Str.occurrences j i 0 j.length 1).isEmpty
def isIn (a b : Dat) : Option Bool := match b with
  | .list ds => if SeqAt.shaped a && SeqAt.shaped (.list ds) then some (ds.any fun z => PyData.eqv z a) else none
  | .tuple ds => if SeqAt.shaped a && SeqAt.shaped (.tuple ds) then some (ds.any fun z => PyData.eqv z a) else none
  | .str j => match a with
    | .str i => some (inStr i j)
    | _ => none
  | _ => none
@[simp] def gIn : Dat → Dat → Sto → Res Dat := fun a b s => match isIn a b with
  | some k => .ok (.bool k) s
  | none => .bad
@[simp] def gNotIn : Dat → Dat → Sto → Res Dat := fun a b s => match isIn a b with
  | some k => .ok (.bool (!k)) s
  | none => .bad
def rIn3 (K : PySem.W.Frag) : R2 := fun x y H Q => rInD K x y H Q ∨ rInT K x y H Q ∨ ∃ i j, x = .str i ∧ y = .str j ∧ Q (.bl (!(Builtin.Str.occurrences j i 0 j.length 1).isEmpty)) H
def rNotIn3 (K : PySem.W.Frag) : R2 := fun x y H Q => rNotInD K x y H Q ∨ rNotInT K x y H Q ∨ ∃ i j, x = .str i ∧ y = .str j ∧ Q (.bl (!(!(Builtin.Str.occurrences j i 0 j.length 1).isEmpty))) H
theorem dp_full {w : Wd} {H : Hp} {K : PySem.W.Frag} {d : Dat} {v : V} (c : SeqAt.shaped d = true) (r : Rp K w.as (Fz w H) d v) : Dp K H v d := Dp_mono Fz_sub _ _ (dp_of d v (SeqAt.canLay_of_shaped c) r)
theorem opIn : OpD G (rIn3 G.K) gIn := by
  intro w e s σ H x y a b Q I ra rb h
  unfold gIn at h
  split at h
  · rename_i k hk
    have fin := flat_ok I h (rp_b (i := k))
    unfold isIn at hk
    split at hk
    · split at hk
      · rename_i c
        cases hk
        rw [Bool.and_eq_true] at c
        exact .inl ⟨_, _, dp_full c.1 ra, dp_full c.2 rb, c.1, c.2, fin⟩
      · cases hk
    · split at hk
      · rename_i c
        cases hk
        rw [Bool.and_eq_true] at c
        exact .inr (.inl ⟨_, _, dp_full c.1 ra, dp_full c.2 rb, c.1, c.2, fin⟩)
      · cases hk
    · split at hk
      · cases hk
        exact .inr (.inr ⟨_, _, rp_str ra, rp_str rb, fin⟩)
      · cases hk
    · cases hk
  · exact h.elim
theorem opNotIn : OpD G (rNotIn3 G.K) gNotIn := by
  intro w e s σ H x y a b Q I ra rb h
  unfold gNotIn at h
  split at h
  · rename_i k hk
    have fin := flat_ok I h (rp_b (i := !k))
    unfold isIn at hk
    split at hk
    · split at hk
      · rename_i c
        cases hk
        rw [Bool.and_eq_true] at c
        exact .inl ⟨_, _, dp_full c.1 ra, dp_full c.2 rb, c.1, c.2, fin⟩
      · cases hk
    · split at hk
      · rename_i c
        cases hk
        rw [Bool.and_eq_true] at c
        exact .inr (.inl ⟨_, _, dp_full c.1 ra, dp_full c.2 rb, c.1, c.2, fin⟩)
      · cases hk
    · split at hk
      · cases hk
        exact .inr (.inr ⟨_, _, rp_str ra, rp_str rb, fin⟩)
      · cases hk
    · cases hk
  · exact h.elim
section
variable {a b : Expr} {pos : Pos} {Fa Fb : FE} {k : Nat}
theorem de_in (hr : Room k X.A) (hK : X.K = G.K) (ha : PE X a (tE G Fa)) (hb : PE X b (tE G Fb)) (hm : behindInMarks .In b = false := by with_unfolding_all rfl) : PE X (.Compare a [.In] [b] pos) (tE G (fBin gIn Fa Fb)) :=
  de_cmp (r := rIn3 G.K) (by rw [← hK]; exact (op_inD (room65 hr)).or ((op_inT (room65 hr)).or op_in_str)) opIn ha hb hm
theorem de_notIn (hr : Room k X.A) (hK : X.K = G.K) (ha : PE X a (tE G Fa)) (hb : PE X b (tE G Fb)) (hm : behindInMarks .NotIn b = false := by with_unfolding_all rfl) : PE X (.Compare a [.NotIn] [b] pos) (tE G (fBin gNotIn Fa Fb)) :=
  de_cmp (r := rNotIn3 G.K) (by rw [← hK]; exact (op_notInD (room65 hr)).or ((op_notInT (room65 hr)).or op_notIn_str)) opNotIn ha hb hm
theorem dt_in (hr : Room k X.A) (hK : X.K = G.K) (ha : PE X a (tE G Fa)) (hb : PE X b (tE G Fb)) (hm : behindInMarks .In b = false := by with_unfolding_all rfl) : PT X (.Compare a [.In] [b] pos) (tT G (fB (fBin gIn Fa Fb))) :=
  dt_cmp (r := rIn3 G.K) (by rw [← hK]; exact (op_inD (room65 hr)).or ((op_inT (room65 hr)).or op_in_str)) opIn ha hb hm
theorem dt_notIn (hr : Room k X.A) (hK : X.K = G.K) (ha : PE X a (tE G Fa)) (hb : PE X b (tE G Fb)) (hm : behindInMarks .NotIn b = false := by with_unfolding_all rfl) : PT X (.Compare a [.NotIn] [b] pos) (tT G (fB (fBin gNotIn Fa Fb))) :=
  dt_cmp (r := rNotIn3 G.K) (by rw [← hK]; exact (op_notInD (room65 hr)).or ((op_notInT (room65 hr)).or op_notIn_str)) opNotIn ha hb hm
end

/-! ### is None -/
@[simp] def isNone : Dat → Option Bool
  | .none => some true
  | .bool _ => some false
  | .int _ => some false
  | .str _ => some false
  | .list _ => some false
  | .tuple _ => some false
  | .dict _ => none
theorem isNone_ok {K as F} {d : Dat} {v : V} {b : Bool} (h : isNone d = some b) (r : Rp K as F d v) : decide (v = .non) = b := by
  cases d with
  | none => cases h; rw [rp_none r]; rfl
  | bool _ => cases h; rw [rp_bool r]; rfl
  | int _ => cases h; rw [rp_int r]; rfl
  | str _ => cases h; rw [rp_str r]; rfl
  | list _ => cases h; obtain ⟨a, xs, rfl, _⟩ := rp_list r; rfl
  | tuple _ => cases h; obtain ⟨a, xs, rfl, _⟩ := rp_tuple r; rfl
  | dict _ => cases h
@[simp] def gIs : Dat → Dat → Sto → Res Dat := fun a b s => match b with
  | .none => match isNone a with
    | some k => .ok (.bool k) s
    | none => .bad
  | _ => .bad
@[simp] def gIsNot : Dat → Dat → Sto → Res Dat := fun a b s => match b with
  | .none => match isNone a with
    | some k => .ok (.bool (!k)) s
    | none => .bad
  | _ => .bad
theorem opIs : OpD G (fun x y H Q => y = .non ∧ Q (.bl (decide (x = .non))) H) gIs := by
  intro w e s σ H x y a b Q I ra rb h
  unfold gIs at h
  split at h
  · split at h
    · rename_i k hk
      rw [isNone_ok hk ra]
      exact ⟨rp_none rb, flat_ok I h rp_b⟩
    · exact h.elim
  · exact h.elim
theorem opIsNot : OpD G (fun x y H Q => y = .non ∧ Q (.bl (!decide (x = .non))) H) gIsNot := by
  intro w e s σ H x y a b Q I ra rb h
  unfold gIsNot at h
  split at h
  · split at h
    · rename_i k hk
      rw [isNone_ok hk ra]
      exact ⟨rp_none rb, flat_ok I h rp_b⟩
    · exact h.elim
  · exact h.elim
section
variable {a b : Expr} {pos : Pos} {Fa Fb : FE}
theorem de_is (ha : PE X a (tE G Fa)) (hb : PE X b (tE G Fb)) : PE X (.Compare a [.Is] [b] pos) (tE G (fBin gIs Fa Fb)) := de_cmp op_isN opIs ha hb
theorem de_isNot (ha : PE X a (tE G Fa)) (hb : PE X b (tE G Fb)) : PE X (.Compare a [.IsNot] [b] pos) (tE G (fBin gIsNot Fa Fb)) := de_cmp op_notN opIsNot ha hb
theorem dt_is (ha : PE X a (tE G Fa)) (hb : PE X b (tE G Fb)) : PT X (.Compare a [.Is] [b] pos) (tT G (fB (fBin gIs Fa Fb))) := dt_cmp op_isN opIs ha hb
theorem dt_isNot (ha : PE X a (tE G Fa)) (hb : PE X b (tE G Fb)) : PT X (.Compare a [.IsNot] [b] pos) (tT G (fB (fBin gIsNot Fa Fb))) := dt_cmp op_notN opIsNot ha hb
end

/-! ### isinstance of data -/
@[simp] def tyName : Dat → Option String
  | .none => some "NoneType"
  | .bool _ => some "bool"
  | .int _ => some "int"
  | .str _ => some "str"
  | .list _ => some "list"
  | .tuple _ => some "tuple"
  | .dict _ => none
@[simp] def isiTab (T n : String) : Bool := n == T || (T == "int" && n == "bool")
@[simp] def gIsi (T : String) : Dat → Sto → Res Dat := fun d s => match tyName d with
  | some n => .ok (.bool (isiTab T n)) s
  | none => .bad
theorem tyName_is {K : PySem.W.Frag} {w : Wd} {H : Hp} {d : Dat} {v : V} {n : String} (h : tyName d = some n) (r : Rp K w.as (Fz w H) d v) : TyX K H v (.type n) ∧ n ∈ ["NoneType", "bool", "int", "str", "list", "tuple"] := by
  cases d with
  | none => cases h; rw [rp_none r]; exact ⟨.base .non, by simp⟩
  | bool b => cases h; rw [rp_bool r]; exact ⟨.base (.bl b), by simp⟩
  | int b => cases h; rw [rp_int r]; exact ⟨.base (.int b), by simp⟩
  | str b => cases h; rw [rp_str r]; exact ⟨.base (.str b), by simp⟩
  | list ds =>
    cases h
    obtain ⟨a, xs, rfl, q, _⟩ := rp_list r
    exact ⟨.base (.lst (Fz_sub _ _ q)), by simp⟩
  | tuple ds =>
    cases h
    obtain ⟨a, xs, rfl, q, _⟩ := rp_tuple r
    refine ⟨?_, by simp⟩
    rcases sqT_mono Fz_sub q with (q | ⟨o, q⟩) | ⟨o, its, n, hk, hc, _⟩
    · exact .base (.tup q)
    · exact .fTuple q
    · exact .kTuple hk hc
  | dict _ => cases h
theorem de_isi (T : String) {p p2 pos : Pos} {a : Expr} {Fa : FE} {x : Str} (hK : X.K = G.K) (hm : X.mg "isinstance" = none) (hm2 : X.mg x = none) (ht : ∀ n ∈ ["NoneType", "bool", "int", "str", "list", "tuple"], kitB n T = some (isiTab T n)) (ha : PE X a (tE G Fa)) (hg : Gl X "isinstance" := by rfl) (hg2 : Gl X x := by rfl)
    (hv : bootBuiltins x = some (.type T) := by decide +kernel) (hv2 : bootBuiltins "isinstance" = some (.builtin "isinstance") := by decide +kernel) (hn : x ≠ "__name__" := by decide) (hdb : (x == ("__debug__" : Str)) = false := by decide)
    (he : starEach [a, .Name x p2] X.env = (false, eval a X.env) :: starEach [.Name x p2] X.env := by rfl) (he2 : starEach [.Name x p2] X.env = (false, eval (.Name x p2) X.env) :: starEach [] X.env := by rfl) (hpl : (backTo pos (starEach [.Name x p2] X.env)).any (·.1) = false := by rfl) :
    PE X (.Call (.Name "isinstance" p) [a, .Name x p2] [] pos) (tE G (fUn (gIsi T) Fa)) :=
  PE_imp (pe_callB call_isi hg hm hv2 (pa_cons ha (pa_cons (pe_bltn (v := .ty T) hg2 hm2 hv rfl hn hdb) pa_nil he2) he) (by decide) (by decide) he hpl) fun σ H Q ⟨w, e, s, I, h⟩ => by
    refine ⟨w, e, s, I, holds_imp (holds_bind h) fun d s1 h1 w1 v H1 I1 x1 r1 => ?_⟩
    unfold gIsi at h1
    split at h1
    · rename_i n hn'
      obtain ⟨t1, t2⟩ := tyName_is hn' r1
      rw [hK]
      exact ⟨v, .ty T, .type n, .type T, _, rfl, .ty T, t1, kit_ty (ht n t2), h1 w1 _ H1 I1 x1 rp_b⟩
    · exact h1.elim
end
end DL

namespace DL
open PySem PySem.Spec PyProof.Rows L2
section
variable {X : Cx} {G : Gx}
/-! ### sum -/
def rSumT (K : PySem.W.Frag) : List V → Hp → VK → Prop := fun vs H Q => ∃ (a : Addr) (ns : List Int), vs = [V.ref a] ∧ SqT K H a (ns.map V.int) ∧ Q (.int ns.sum) H
theorem cr_sumT (hc : X.calm = true) : CallR X (.builtin "sum") (rSumT X.K) := fun pins s σ H vs us Q I r ⟨a, ns, ev, hs, q⟩ => by
  subst ev
  obtain ⟨its, rv, hl, _⟩ := I.tuple hs
  have hi : IntsAre its ns := intsAre_of rv
  obtain ⟨xs, hx⟩ := hi.allInts.items
  have hn : numsOf its.toArray.toList = ns := hi.numsOf
  rw [hx, nums_intItems] at hn
  rw [Vals.ref1 r]
  have la : a < s.heap.objs.size := hl.lt
  refine call_sum_walkG (wpAny_pyIter_tuple (show s.heap.IsTuple a its.toArray from hl) ?_)
  refine ⟨s.heap.objs.size, _, _, _, _, _, numAt xs, rfl, Walks.tuple (A := X.A.in1) (I.ok.hd hc) s.heap.objs.size a (Nat.ne_of_lt la) its.toArray, ⟨⟨_, Heap.get?_push_size _ rfl, rfl, rfl⟩, Heap.IsTuple.push (show s.heap.IsTuple a its.toArray from hl) _⟩, fun b hb => ?_, fun i v hv => intItems_at (by rw [← hx]; exact hv), fun h' tk t' hk => ?_⟩
  · show b < (s.heap.push _).objs.size
    rw [Heap.size_push]
    rcases List.mem_cons.mp hb with e | hb
    · rw [e]; exact Nat.lt_succ_self _
    · rw [List.mem_singleton.mp hb]; exact Nat.lt_succ_of_lt la
  · refine ⟨.int ns.sum, H, I.kept fun b o eo => hk b o (fun hm => ?_) (Heap.get?_push_of_some _ eo), ⟨t', ?_⟩, q⟩
    · rw [List.mem_singleton.mp hm] at eo
      exact absurd (Heap.lt_size eo) (Nat.lt_irrefl _)
    · rw [preSum_eq, ← hn, List.take_of_length_le (by rw [hx]; simp [intItems])]
theorem cdSum : CallD G (fun vs H Q => rSum G.K vs H Q ∨ rSumT G.K vs H Q) gSum := by
  intro w e s σ H xs ds Q I r h
  unfold gSum at h
  split at h
  · split at h
    · rename_i ns hns
      obtain ⟨v, rfl, r1⟩ := rpl1 r
      obtain ⟨p, ys, rfl, hp, rx⟩ := rp_list r1
      have e := ints_vals hns rx
      subst e
      exact .inl ⟨p, ns, rfl, .inl (.inl (Fz_sub _ _ hp)), flat_ok I h rp_i⟩
    · exact h.elim
  · split at h
    · rename_i ns hns
      obtain ⟨v, rfl, r1⟩ := rpl1 r
      obtain ⟨p, ys, rfl, hp, rx⟩ := rp_tuple r1
      have e := ints_vals hns rx
      subst e
      exact .inr ⟨p, ns, rfl, sqT_mono Fz_sub hp, flat_ok I h rp_i⟩
    · exact h.elim
  · exact h.elim
theorem de_sum {p pos : Pos} {a : Expr} {es : List Expr} {Fs : FA} (hc : X.calm = true) (hK : X.K = G.K) (hm : X.mg "sum" = none) (ha : PA X (a :: es) (tA G Fs)) (hgl : Gl X "sum" := by rfl) (he : starEach (a :: es) X.env = (false, eval a X.env) :: starEach es X.env := by rfl) (hpl : (backTo pos (starEach es X.env)).any (·.1) = false := by rfl) :
    PE X (.Call (.Name "sum" p) (a :: es) [] pos) (tE G (fCall gSum Fs)) := de_callB (CallR.or (cr_sum hc) (cr_sumT hc)) (by rw [hK]; exact cdSum) hm ha (hgl := hgl) (he := he) (hpl := hpl)

/-! ### new lists for a local of one's own -/
/-- behind an expression that makes a new list -/
def kN (G : Gx) (w : Wd) (e : Lcs) (σ : L2.St) (H : Hp) (Q : VK) : List Dat → Sto → Prop := fun ds s' => ∀ w' p vs H', IE G w' e s' σ H' → FExt w H w' H' → w'.ow p → G.H0 p = none → ¬ G.O0 p → Lone e σ p → H' p = some (.lst vs) → RpL G.K w'.as (Fz w' H') ds vs → Q (.ref p) H'
def tN (G : Gx) (F : FA) : TE := fun σ H Q => ∃ w e s, IE G w e s σ H ∧ (F e s).holds (kN G w e σ H Q)
theorem kN_ext {w w1 : Wd} {e : Lcs} {σ : L2.St} {H H1 : Hp} {Q : VK} {d : List Dat} {s : Sto} (x : FExt w H w1 H1) (h : kN G w e σ H Q d s) : kN G w1 e σ H1 Q d s :=
  fun w' p vs H' I x' => h w' p vs H' I (x.trans x')
theorem new_own {w : Wd} {e : Lcs} {s : Sto} {σ : L2.St} {H : Hp} {Q : VK} {ds : List Dat} {vs : List V} {p : Addr} (I : IE G w e s σ H) (r : RpL G.K w.as (Fz w H) ds vs) (h : kN G w e σ H Q ds s) (hp : H p = none) : Q (.ref p) (upd H p (.lst vs)) :=
  h (w.plus p) p vs _ (I.plus hp) (plus_f hp) (.inr rfl) (I.fresh0 hp) (I.freshO0 hp) (I.lone hp) upd_same (by rw [Fz_plus hp]; exact r)
theorem dn_lst {es : List Expr} {pos : Pos} {Fs : FA} (h : PA X es (tA G Fs)) : PE X (.List es pos) (tN G (fun e s => (Fs e s).bind fun ds s1 => if cLen ds then .ok ds s1 else .bad)) := PE_imp (pe_lst h) fun σ H Q ⟨w, e, s, I, h⟩ => by
  refine ⟨w, e, s, I, holds_imp (holds_bind h) fun ds s1 h1 w1 xs H1 I1 x1 r1 => ?_⟩
  split at h1
  · rename_i c
    exact ⟨by rw [r1.length]; exact of_decide_eq_true c, fun p hp => new_own I1 r1 (kN_ext x1.f h1) hp⟩
  · exact h1.elim
@[simp] def nLstOf (Fs : FA) : FA := fun e s => (Fs e s).bind fun ds s1 => match ds with
  | [.list xs] => .ok xs s1
  | [.tuple xs] => .ok xs s1
  | _ => .bad
@[simp] def nCat (Fa Fb : FE) : FA := fun e s => (Fa e s).bind fun x s1 => (Fb e s1).bind fun y s2 => match x, y with
  | .list xs, .list ys => if xs.length + ys.length ≤ sizeLine then .ok (xs ++ ys) s2 else .bad
  | _, _ => .bad
/-- list(xs), tuples and lists -/
theorem dn_lstOf {p pos : Pos} {a : Expr} {es : List Expr} {Fs : FA} (hK : X.K = G.K) (hm : X.mg "list" = none) (ha : PA X (a :: es) (tA G Fs)) (hgl : Gl X "list" := by rfl) (he : starEach (a :: es) X.env = (false, eval a X.env) :: starEach es X.env := by rfl) (hpl : (backTo pos (starEach es X.env)).any (·.1) = false := by rfl) :
    PE X (.Call (.Name "list" p) (a :: es) [] pos) (tN G (nLstOf Fs)) := PE_imp (pe_callTy call_list_of hgl hm (by decide +kernel) ha (by decide) (by decide) he hpl) fun σ H Q ⟨w, e, s, I, h⟩ => by
  rw [hK]
  refine ⟨w, e, s, I, holds_imp (holds_bind h) fun ds s1 h1 w1 xs H1 I1 x1 r1 => ?_⟩
  split at h1
  · obtain ⟨v, rfl, k⟩ := rpl1 r1
    obtain ⟨p, ys, rfl, hp, rx⟩ := rp_list k
    exact ⟨p, ys, rfl, .inl (.inl (.inl (Fz_sub _ _ hp))), fun l hl => new_own I1 rx (kN_ext x1.f h1) hl⟩
  · obtain ⟨v, rfl, k⟩ := rpl1 r1
    obtain ⟨p, ys, rfl, hp, rx⟩ := rp_tuple k
    exact ⟨p, ys, rfl, .inr (sqT_mono Fz_sub hp), fun l hl => new_own I1 rx (kN_ext x1.f h1) hl⟩
  · exact h1.elim
/-- xs + ys, two lists -/
theorem dn_cat {a b : Expr} {pos : Pos} {Fa Fb : FE} (ha : PE X a (tE G Fa)) (hb : PE X b (tE G Fb)) : PE X (.BinOp a .Add b pos) (tN G (nCat Fa Fb)) := PE_imp (pe_op op_cat ha hb) fun σ H Q ⟨w, e, s, I, h⟩ => by
  refine ⟨w, e, s, I, holds_imp (holds_bind h) fun x s1 h1 w1 xv H1 I1 x1 r1 => ?_⟩
  refine ⟨w1, e, s1, I1, holds_imp (holds_bind h1) fun y s2 h2 w2 yv H2 I2 x2 r2 => ?_⟩
  split at h2
  · split at h2
    · rename_i c
      obtain ⟨p, us, rfl, hp, rx⟩ := rp_list (x2.rp r1)
      obtain ⟨q, zs, rfl, hq, ry⟩ := rp_list r2
      exact ⟨p, q, us, zs, rfl, rfl, Fz_sub _ _ hp, Fz_sub _ _ hq, by rw [rx.length, ry.length]; exact c, fun l hl => new_own I2 (rx.append ry) (kN_ext (x1.trans x2).f h2) hl⟩
    · exact h2.elim
  · exact h2.elim
/-- a comprehension -/
@[simp] def fLcN (Fi : FA) (F : FG) (C : FT) (Fe : FE) (vs : List Nat) : FA := fun e s => (Fi e s).bind fun ds s1 => if decide (ds.length < sizeLine) then lcL F C Fe (wipeE e vs) ds s1 else .bad
theorem lcN_of {Fi : FA} {F : FG} {C : FT} {Fe : FE} {vs is : List Nat} (his : ∀ i ∈ is, i ∈ vs) {σ : L2.St} {H : Hp} {Q : VK} (h : tN G (fLcN Fi F C Fe vs) σ H Q) : tLc (tI G Fi) (tG G is F) (tT G C) (tE G Fe) vs σ H Q := by
  obtain ⟨w, e, s, I, h⟩ := h
  refine ⟨w, e, s, I, holds_imp (holds_bind h) fun ds s1 h1 w1 H1 J I1 x1 W D hD => ?_⟩
  have hz : ds.length < sizeLine := by
    by_cases q : ds.length < sizeLine
    · exact q
    · rw [if_neg (by simpa using q)] at h1
      exact h1.elim
  rw [if_pos (by simpa using hz)] at h1
  have lone : Lone (wipeE e vs) (wipe σ vs) D := (I1.wipe vs).lone hD
  have d0 : G.H0 D = none := I1.fresh0 hD
  have dn : ¬ w1.ow D := I1.freshO hD
  have d00 : ¬ G.O0 D := I1.freshO0 hD
  have I2 : IE G (w1.plus D) (wipeE e vs) s1 (wipe σ vs) (upd H1 D (.lst [])) := (I1.wipe vs).plus hD
  refine ⟨fun i m H2 => m = ds.length - i ∧ i ≤ ds.length ∧ ∃ w2 s2 acc avs, IE G w2 (wipeE e vs) s2 (wipe σ vs) H2 ∧ FExt w1 H1 w2 H2 ∧ w2.ow = (w1.plus D).ow ∧ (∀ a, w1.ow a → H2 a = H1 a) ∧ H2 D = some (.lst avs) ∧ RpL G.K w2.as (Fz w2 H2) acc avs ∧ acc.length ≤ i ∧
      (lcL F C Fe (wipeE e vs) (ds.drop i) s2).holds fun ys s3 => kN G w1 e σ H1 Q (acc ++ ys) s3,
    ⟨ds.length, by omega, Nat.zero_le _, w1.plus D, s1, [], [], I2, plus_f hD, rfl, fun a ha => upd_ne fun (z : a = D) => dn (by rw [← z]; exact ha), upd_same, RpL.nil, Nat.le_refl _, ?_⟩, ?_⟩
  · exact holds_imp h1 fun ys s2 h2 => kN_ext x1.f h2
  rintro i m H2 ⟨rfl, hi, w2, s2, acc, avs, J2, x2, o2, k2, hD2, ra, la, q⟩
  have owD : w2.ow D := by rw [o2]; exact .inr rfl
  by_cases hlt : i < ds.length
  · refine .inr ⟨W.go w2 H2 x2 i hlt, fun H3 => ∃ w3 s3 acc avs, IE G w3 (wipeE e vs) s3 (wipe σ vs) H3 ∧ FExt w1 H1 w3 H3 ∧ w3.ow = (w1.plus D).ow ∧ (∀ a, w1.ow a → H3 a = H1 a) ∧ H3 D = some (.lst avs) ∧ RpL G.K w3.as (Fz w3 H3) acc avs ∧ acc.length ≤ i + 1 ∧
        (lcL F C Fe (wipeE e vs) (ds.drop (i + 1)) s3).holds fun ys s4 => kN G w1 e σ H1 Q (acc ++ ys) s4, fun H3 k => ⟨ds.length - (i + 1), by omega, rfl, hlt, k⟩, fun v H3 y => ?_⟩
    obtain ⟨J3, x3, d, hd, rd⟩ := W.yld w2 _ s2 _ H2 H3 i v J2 x2 hlt y
    have ed : ds.drop i = d :: ds.drop (i + 1) := by
      rw [List.drop_eq_getElem_cons hlt]
      rw [List.getElem?_eq_getElem hlt] at hd
      cases hd
      rfl
    rw [ed] at q
    unfold lcL at q
    have on : ∀ {w5 : Wd} {H5 : Hp}, EExt w2 H2 w5 H5 → FExt w1 H1 w5 H5 ∧ w5.ow = (w1.plus D).ow ∧ (∀ a, w1.ow a → H5 a = H1 a) ∧ H5 D = some (.lst avs) ∧ RpL G.K w5.as (Fz w5 H5) acc avs := fun {w5 H5} x =>
      ⟨x2.trans x.f, x.ow.trans o2, fun a ha => (x.own a (by rw [o2]; exact .inl ha)).trans (k2 a ha), (x.own D owD).trans hD2, x.rpl ra⟩
    refine ⟨w2, wipeE e vs, s2, d, J3, rd, holds_imp (holds_bind q) fun e4 s4 h4 w4 σ4 H4 I4 x4 a4 l4 => ?_⟩
    have hw : wipe σ4 vs = wipe σ vs := by
      have e1 : wipe σ4 vs = wipe (wipe σ vs) vs := wipe_eq l4 fun j hj => a4 j fun z => hj (his j z)
      have e2 : wipe (wipe σ vs) vs = wipe σ vs := wipe_eq (wipe_length σ vs) fun j hj => wipe_get hj
      exact e1.trans e2
    refine ⟨hw, w4, e4, s4, I4, holds_imp (holds_bind h4) fun b s5 h5 w5 H5 I5 x5 => ?_⟩
    have x25 := x3.trans (x4.trans x5)
    cases b with
    | true =>
      simp only [if_true] at h5
      refine iteT ⟨w5, e4, s5, I5, holds_imp (holds_bind h5) fun y s6 h6 w6 yv H6 I6 x6 r6 => ?_⟩
      have x26 := x25.trans x6
      obtain ⟨g1, g2, g3, g4, g5⟩ := on x26
      refine ⟨avs, g4, by rw [ra.length]; omega, ?_⟩
      have J6 : IE G w6 (wipeE e vs) s6 (wipe σ vs) H6 := J2.re x26 I6
      have ow6 : w6.ow D := by rw [g2]; exact .inr rfl
      refine ⟨w6, s6, acc ++ [y], avs ++ [yv], J6.write ow6 d0 lone, g1.trans (write_f ow6), g2, fun a ha => ?_, upd_same, ?_, by simp; omega, ?_⟩
      · rw [upd_ne fun (z : a = D) => dn (by rw [← z]; exact ha)]
        exact g3 a ha
      · rw [Fz_own ow6]
        exact g5.append (RpL.one r6)
      · refine holds_imp (holds_bind h6) fun ys s7 h7 => ?_
        have h7' : kN G w1 e σ H1 Q (acc ++ (y :: ys)) s7 := h7
        rw [List.append_assoc]
        exact h7'
    | false =>
      simp only [Bool.false_eq_true, if_false] at h5
      obtain ⟨g1, g2, g3, g4, g5⟩ := on x25
      exact iteF ⟨w5, s5, acc, avs, J2.re x25 I5, g1, g2, g3, g4, g5, by omega, h5⟩
  · have e0 : ds.drop i = [] := List.drop_eq_nil_of_le (by omega)
    rw [e0] at q
    refine .inl ⟨W.stop w2 H2 x2 i (by omega), ?_⟩
    have q' : kN G w1 e σ H1 Q (acc ++ []) s2 := q
    rw [List.append_nil] at q'
    have I3 : IE G w2 e s2 σ H2 := by
      refine ⟨I1.len, fun j d h => ?_, fun j es h => ?_, I1.inj, J2.slen, J2.cells, J2.nd, J2.dis, J2.beg, J2.o0, J2.there, J2.keep, J2.cfresh⟩
      · obtain ⟨v, z1, z2⟩ := I1.slot j d h
        exact ⟨v, z1, x2.rp z2⟩
      · obtain ⟨p, us, z1, z2, z3, z4, z5, z6⟩ := I1.own j es h
        exact ⟨p, us, z1, by rw [o2]; exact .inl z2, z3, z4, by rw [k2 p z2]; exact z5, x2.rpl z6⟩
    exact q' w2 D avs H2 I3 x2 owD d0 d00 (I1.lone hD) hD2 ra
theorem dn_lc {elt tg iter : Expr} {ifs : List Expr} {scope : Scope} {own : List (Str × Nat)} {pos : Pos} {Fi : FA} {F : FG} {C : FT} {Fe : FE} {is : List Nat} (hc : X.calm = true) (hN : X.N.Nodup) (ok : BlkOk X.N X.env.scope scope own) (hi : PI X tg iter (tI G Fi))
    (hg : ∀ (s : Shared) (H : Hp) (A : Addr) (cl : List (Str × Addr)) (fp : List Addr), PG (X.blk s H scope (compEnvC scope cl A X.env) fp) tg (tG G is F)) (ht : ∀ (s : Shared) (H : Hp) (A : Addr) (cl : List (Str × Addr)) (fp : List Addr), PTs (X.blk s H scope (compEnvC scope cl A X.env) fp) ifs (tT G C))
    (he : ∀ (s : Shared) (H : Hp) (A : Addr) (cl : List (Str × Addr)) (fp : List Addr), PE (X.blk s H scope (compEnvC scope cl A X.env) fp) elt (tE G Fe)) (his : ∀ i ∈ is, i ∈ own.map (·.2) := by decide) (hs : ∀ x, foldedSetIterable iter X.env x = pure x := by intro _; rfl) :
    PE X (.ListComp elt [⟨tg, iter, ifs, 0⟩] scope pos) (tN G (fLcN Fi F C Fe (own.map (·.2)))) := PE_imp (pe_lc hc hN hi ok hg ht he hs) fun _ _ _ h => lcN_of his h
/-- x = a new list -/
@[simp] def sOwnN (i : Nat) (F : FA) : FS := fun e s => (F e s).flo fun ds s1 => if i < e.length then .nx (e.set i (.ow ds)) s1 else .bad
theorem own_of {F : FA} {i : Nat} {D : Ends} {σ : L2.St} {H : Hp} (h : tS G (sOwnN i F) D σ H) : tN G F σ H fun x H1 => gName i x σ H1 D.nx := by
  obtain ⟨w, e, s, I, h⟩ := h
  refine ⟨w, e, s, I, holds_imp (flo_holds h) fun ds s1 h1 w1 p vs H1 I1 x1 k1 k2 k3 k4 k5 k6 => ?_⟩
  split at h1
  · rename_i c
    exact h1 w1 _ H1 (I1.setOwn c k1 k2 k3 k4 k5 k6) x1
  · exact h1.elim
theorem ds_own (i : Nat) {y : Str} {x : Expr} {pos pos' : Pos} {F : FA} (hN : X.N.Nodup) (ha : PE X x (tN G F)) (hi : X.N[i]? = some y := by rfl) (hx : Loc X.env.scope y := by first | exact Or.inl rfl | exact Or.inr rfl) (hs : swapsWith x (some (.Name y pos')) pos.line X.env = pure false := by rfl)
    (hf : X.fn y = true ∨ X.env.scope.names.lookup y = some .local := by first | exact .inl rfl | exact .inr rfl) : PS X (.Assign [.Name y pos'] x pos) (tS G (sOwnN i F)) :=
  PS_imp (ps_set hN hi hx ha hs hf) fun D σ H h => own_of h
theorem ds_ownLc (i : Nat) {y : Str} {py : Pos} {elt tg iter : Expr} {ifs : List Expr} {scope : Scope} {own : List (Str × Nat)} {pos spos : Pos} {Fi : FA} {F : FG} {C : FT} {Fe : FE} {is : List Nat} (hc : X.calm = true) (hN : X.N.Nodup) (ok : BlkOk X.N X.env.scope scope own)
    (hsw : swapsWith (.ListComp elt [⟨tg, iter, ifs, 0⟩] scope pos) (some (.Name y py)) spos.line X.env = pure true) (hi : PI X tg iter (tI G Fi))
    (hg : ∀ (s : Shared) (H : Hp) (A : Addr) (cl : List (Str × Addr)) (fp : List Addr), PG (X.blk s H scope (compEnvC scope cl A X.env) fp) tg (tG G is F)) (ht : ∀ (s : Shared) (H : Hp) (A : Addr) (cl : List (Str × Addr)) (fp : List Addr), PTs (X.blk s H scope (compEnvC scope cl A X.env) fp) ifs (tT G C))
    (he : ∀ (s : Shared) (H : Hp) (A : Addr) (cl : List (Str × Addr)) (fp : List Addr), PE (X.blk s H scope (compEnvC scope cl A X.env) fp) elt (tE G Fe)) (hy : X.N[i]? = some y := by rfl) (hyl : X.env.scope.names.lookup y = some .local := by rfl)
    (his : ∀ i ∈ is, i ∈ own.map (·.2) := by decide) (hs : ∀ x, foldedSetIterable iter X.env x = pure x := by intro _; rfl) :
    PS X (.Assign [.Name y py] (.ListComp elt [⟨tg, iter, ifs, 0⟩] scope pos) spos) (tS G (sOwnN i (fLcN Fi F C Fe (own.map (·.2))))) :=
  PS_imp (ps_setLc hc hN hy hyl hsw hi ok hg ht he hs) fun D σ H h => lcN_of his (own_of h)
/-- x[k], len(x) of a list of one's own, or that stands still by now -/
@[simp] def fIxOwn (i : Nat) (Fb : FE) : FE := fun e s => match e[i]? with
  | some (.ow ds) => (Fb e s).bind fun k s1 => match k with
    | .int j => match atI ds j with
      | some d => .ok d s1
      | none => .bad
    | _ => .bad
  | some (.fz d) => (Fb e s).bind fun k s1 => gIx d k s1
  | _ => .bad
theorem de_ixOwn (i : Nat) {x : Str} {b : Expr} {pos px : Pos} {Fb : FE} (hK : X.K = G.K) (hb : PE X b (tE G Fb)) (hs : PlainIx b := by exact fun _ _ => rfl) (hN : X.N[i]? = some x := by rfl) (hv : Vis X.env.scope x := by first | exact Or.inl rfl | exact Or.inr (Or.inl rfl) | exact Or.inr (Or.inr rfl)) (hd : (x == ("__debug__" : Str)) = false := by decide)
    (hcd : (x == ("__classdict__" : Str)) = false := by decide) : PE X (.Subscript (.Name x px) b pos) (tE G (fIxOwn i Fb)) := PE_imp (pe_ix ix_seq (pe_var (i := i) hN hv hd hcd) hb hs) fun σ H Q ⟨w, e, s, I, h⟩ => by
  unfold fIxOwn at h
  split at h
  · rename_i ds hds
    obtain ⟨p, vs, g1, g2, g3, g4, g5, g6⟩ := I.own i ds hds
    refine ⟨.ref p, g1, w, e, s, I, holds_imp (holds_bind h) fun k s1 h1 w1 kv H1 I1 x1 r1 => ?_⟩
    split at h1
    · split at h1
      · rename_i d hd'
        obtain ⟨v, k1, k2⟩ := atI_rp (x1.rpl g6) hd'
        exact .inl ⟨p, vs, _, v, rfl, rp_int r1, .inl (.inl ((x1.own p g2).trans g5)), k1, h1 w1 v H1 I1 x1 k2⟩
      · exact h1.elim
    · exact h1.elim
  · rename_i d hd'
    obtain ⟨v, g1, g2⟩ := I.slot i d hd'
    refine ⟨v, g1, w, e, s, I, holds_imp (holds_bind h) fun k s1 h1 w1 kv H1 I1 x1 r1 => ?_⟩
    rw [hK]
    exact opIx w1 e s1 σ H1 v kv d k Q I1 (x1.rp g2) r1 (holds_imp h1 fun d s2 h2 => kE_ext x1 h2)
  · exact h.elim
@[simp] def fLenOwn (i : Nat) : FE := fun e s => match e[i]? with
  | some (.ow ds) => .ok (.int ds.length) s
  | some (.fz d) => gLen [d] s
  | _ => .bad
theorem de_lenOwn (i : Nat) {x : Str} {pos p px : Pos} (hK : X.K = G.K) (hm : X.mg "len" = none) (hN : X.N[i]? = some x := by rfl) (hv : Vis X.env.scope x := by first | exact Or.inl rfl | exact Or.inr (Or.inl rfl) | exact Or.inr (Or.inr rfl)) (hd : (x == ("__debug__" : Str)) = false := by decide)
    (hcd : (x == ("__classdict__" : Str)) = false := by decide) (hgl : Gl X "len" := by rfl) (he : starEach [.Name x px] X.env = (false, eval (.Name x px) X.env) :: starEach [] X.env := by rfl) (hpl : (backTo pos (starEach [] X.env)).any (·.1) = false := by rfl) :
    PE X (.Call (.Name "len" p) [.Name x px] [] pos) (tE G (fLenOwn i)) := PE_imp (pe_callB call_len hgl hm (by decide +kernel) (pa_cons (pe_var (i := i) hN hv hd hcd) pa_nil he) (by decide) (by decide) he hpl) fun σ H Q ⟨w, e, s, I, h⟩ => by
  unfold fLenOwn at h
  split at h
  · rename_i ds hds
    obtain ⟨p, vs, g1, g2, g3, g4, g5, g6⟩ := I.own i ds hds
    refine ⟨.ref p, g1, .ref p, vs.length, rfl, .inl ⟨vs, .inl (.inl g5), rfl⟩, ?_⟩
    rw [g6.length]
    exact flat_ok I h rp_i
  · rename_i d hd'
    obtain ⟨v, g1, g2⟩ := I.slot i d hd'
    rw [hK]
    exact ⟨v, g1, cdLen w e s σ H [v] [d] Q I (RpL.one g2) h⟩
  · exact h.elim
/-- x[k] = v, a list of one's own -/
@[simp] def sItemOwn (i : Nat) (Fk Fv : FE) : FS := fun e s => (Fv e s).flo fun d s1 => (Fk e s1).flo fun k s2 => match e[i]?, k with
  | some (.ow ds), .int j => match ixN ds.length j with
    | some m => .nx (e.set i (.ow (ds.set m d))) s2
    | none => .bad
  | _, _ => .bad
theorem ds_itemOwn (i : Nat) {x : Str} {k v : Expr} {pos p2 px : Pos} {Fk Fv : FE} (hv : PE X v (tE G Fv)) (hk : PE X k (tE G Fk)) (hN : X.N[i]? = some x := by rfl) (hvis : Vis X.env.scope x := by first | exact Or.inl rfl | exact Or.inr (Or.inl rfl) | exact Or.inr (Or.inr rfl)) (hd : (x == ("__debug__" : Str)) = false := by decide)
    (hcd : (x == ("__classdict__" : Str)) = false := by decide) (ha : ∀ u, assign (.Subscript (.Name x px) k p2) X.env u = (do
      let ov ← holding [u] (eval (.Name x px) X.env)
      let iv ← holding [u, ov] (eval k X.env)
      standAt p2
      holding [u, ov, iv] (setItem ov iv u)
      release [u, ov, iv] []) := by intro _; rfl) (hs : swapsWithSole [.Subscript (.Name x px) k p2] v pos.line X.env = pure false := by rfl) (hw : swappedStores [.Subscript (.Name x px) k p2] v X.env = pure none := by rfl)
    (h1 : (assignEach [.Subscript (.Name x px) k p2] X.env).map (·.2) = [assign (.Subscript (.Name x px) k p2) X.env] := by rfl) : PS X (.Assign [.Subscript (.Name x px) k p2] v pos) (tS G (sItemOwn i Fk Fv)) :=
  PS_imp (ps_asg hv (pg_sub (pe_var (i := i) hN hvis hd hcd) hk set_list ha) hs hw h1) fun D σ H ⟨w, e, s, I, h⟩ => by
    refine ⟨w, e, s, I, holds_imp (flo_holds h) fun d s1 h1 w1 dv H1 I1 x1 r1 => ?_⟩
    have hown : ∃ ds, e[i]? = some (.ow ds) := by
      cases q : Fk e s1 with
      | bad => rw [q] at h1; exact h1.elim
      | ok d s1 =>
        rw [q] at h1
        simp only [flo_ok] at h1
        split at h1
        · rename_i ds j hds
          exact ⟨ds, hds⟩
        · exact h1.elim
    obtain ⟨ds, hds⟩ := hown
    obtain ⟨p, vs, g1, g2, g3, g4, g5, g6⟩ := I1.own i ds hds
    refine ⟨.ref p, g1, w1, e, s1, I1, holds_imp (flo_holds h1) fun k s2 h2 w2 kv H2 I2 x2 r2 => ?_⟩
    rw [hds] at h2
    split at h2
    · rename_i ds' j hj
      cases hj
      split at h2
      · rename_i m hm
        obtain ⟨p', vs', k1, k2, k3, k4, k5, k6⟩ := I2.own i ds hds
        rw [g1] at k1; cases k1
        refine ⟨p, vs', j, m, rfl, rp_int r2, k5, by rw [k6.length]; exact hm, ?_⟩
        exact h2 w2 σ _ (I2.writeOwn hds g1 (k6.set m (x2.rp r1))) ((x1.trans x2).f.trans (write_f k2))
      · exact h2.elim
    · exact h2.elim
end
end DL

namespace DL
open PySem PySem.Spec PyProof.Rows L2
section
variable {X : Cx} {G : Gx}
/-! ### xs turned round -/
theorem RpL.reverse {K : PySem.W.Frag} {as : List Addr} {F : Hp} : ∀ {ds : List Dat} {vs : List V}, RpL K as F ds vs → RpL K as F ds.reverse vs.reverse
  | [], [], _ => by simpa using RpL.nil
  | d :: ds, v :: vs, h => by
    simp only [RpL] at h
    rw [List.reverse_cons, List.reverse_cons]
    exact (RpL.reverse h.2).append (RpL.one h.1)
  | [], _ :: _, h => by simp [RpL] at h
  | _ :: _, [], h => by simp [RpL] at h
@[simp] def gRev : Dat → Sto → Res Dat := fun d s => match d with
  | .list ds => .ok (.list ds.reverse) s
  | _ => .bad
theorem de_rev {a : Expr} {k : Nat} {p1 p2 p3 pos : Pos} {Fa : FE} (hK : X.K = G.K) (ha : PE X a (tE G Fa)) : PE X (.Subscript a (.Slice none none (some (.UnaryOp .USub (.Constant (.int 1) k p1) p2)) p3) pos) (tE G (fUn gRev Fa)) :=
  PE_imp (pe_revL ha) fun σ H Q ⟨w, e, s, I, h⟩ => by
    refine ⟨w, e, s, I, holds_imp (holds_bind h) fun d s1 h1 w1 x H1 I1 x1 r1 => ?_⟩
    rw [hK]
    unfold gRev at h1
    split at h1
    · obtain ⟨p, xs, rfl, hp, rx⟩ := rp_list r1
      exact ⟨p, xs, rfl, .inl (.inl (Fz_sub _ _ hp)), fun l hl => new_list I1 rx.reverse (kE_ext x1 h1) hl⟩
    · exact h1.elim
/-! ### a < b < c -/
def CmpP (X : Cx) (G : Gx) (op : CmpOp) (g : Dat → Dat → Sto → Res Dat) : Prop := ∃ r, OpR X (compareOp op) r ∧ OpD G r g
theorem cp_lt : CmpP X G .Lt (gIB fun i j => decide (i < j)) := ⟨_, op_lt, opIB⟩
theorem cp_le : CmpP X G .LtE (gIB fun i j => decide (i ≤ j)) := ⟨_, op_le, opIB⟩
theorem cp_gt : CmpP X G .Gt (gIB fun i j => decide (j < i)) := ⟨_, op_gt, opIB⟩
theorem cp_ge : CmpP X G .GtE (gIB fun i j => decide (j ≤ i)) := ⟨_, op_ge, opIB⟩
theorem cp_eq (hu : X.A.units + 64 < cLine) (hK : X.K = G.K) : CmpP X G .Eq gEq := ⟨_, op_eqD hu, by rw [hK]; exact opEq⟩
theorem cp_ne (hu : X.A.units + 64 < cLine) (hK : X.K = G.K) : CmpP X G .NotEq gNe := ⟨_, op_neD hu, by rw [hK]; exact opNe⟩
@[simp] def fChain (g g' : Dat → Dat → Sto → Res Dat) (Fa Fb Fc : FE) : FE := fun e s => (Fa e s).bind fun a s1 => (Fb e s1).bind fun b s2 => (g a b s2).bind fun k s3 => match k with
  | .bool true => (Fc e s3).bind fun c s4 => g' b c s4
  | .bool false => .ok (.bool false) s3
  | _ => .bad
theorem chain_of {r r' : R2} {g g' : Dat → Dat → Sto → Res Dat} {Fa Fb Fc : FE} (hg : OpD G r g) (hg' : OpD G r' g') {σ : L2.St} {H : Hp} {Q : VK} (h : tE G (fChain g g' Fa Fb Fc) σ H Q) : tChain r r' (tE G Fa) (tE G Fb) (tE G Fc) σ H Q := by
  obtain ⟨w, e, s, I, h⟩ := h
  refine ⟨w, e, s, I, holds_imp (holds_bind h) fun a s1 h1 w1 x H1 I1 x1 r1 => ?_⟩
  refine ⟨w1, e, s1, I1, holds_imp (holds_bind h1) fun b s2 h2 w2 y H2 I2 x2 r2 => ?_⟩
  refine hg w2 e s2 σ H2 x y a b _ I2 (x2.rp r1) r2 (holds_imp (holds_bind h2) fun d s3 h3 w3 z H3 I3 x3 r3 => ?_)
  split at h3
  · refine ⟨true, rp_bool r3, ?_⟩
    rw [if_pos rfl]
    refine ⟨w3, e, s3, I3, holds_imp (holds_bind h3) fun c s4 h4 w4 z4 H4 I4 x4 r4 => ?_⟩
    exact hg' w4 e s4 σ H4 y z4 b c Q I4 ((x3.trans x4).rp r2) r4 (holds_imp h4 fun d s5 h5 => kE_ext (x1.trans (x2.trans (x3.trans x4))) h5)
  · refine ⟨false, rp_bool r3, ?_⟩
    rw [if_neg (by decide)]
    exact h3 w3 _ H3 I3 (x1.trans (x2.trans x3)) rp_b
  · exact h3.elim
theorem de_chain {a b c : Expr} {pos : Pos} {op op' : CmpOp} {g g' : Dat → Dat → Sto → Res Dat} {Fa Fb Fc : FE} (h1 : CmpP X G op g) (h2 : CmpP X G op' g') (ha : PE X a (tE G Fa)) (hb : PE X b (tE G Fb)) (hc : PE X c (tE G Fc)) (hm : lastMarks [op, op'] [b, c] = false := by with_unfolding_all rfl) :
    PE X (.Compare a [op, op'] [b, c] pos) (tE G (fChain g g' Fa Fb Fc)) := by
  obtain ⟨r, h1, h1'⟩ := h1
  obtain ⟨r', h2, h2'⟩ := h2
  exact PE_imp (pe_chain h1 h2 ha hb hc hm) fun _ _ _ h => chain_of h1' h2' h
theorem dt_chain {a b c : Expr} {pos : Pos} {op op' : CmpOp} {g g' : Dat → Dat → Sto → Res Dat} {Fa Fb Fc : FE} (h1 : CmpP X G op g) (h2 : CmpP X G op' g') (ha : PE X a (tE G Fa)) (hb : PE X b (tE G Fb)) (hc : PE X c (tE G Fc)) (hm : lastMarks [op, op'] [b, c] = false := by with_unfolding_all rfl) :
    PT X (.Compare a [op, op'] [b, c] pos) (tT G (fB (fChain g g' Fa Fb Fc))) := by
  obtain ⟨r, h1, h1'⟩ := h1
  obtain ⟨r', h2, h2'⟩ := h2
  refine PT_imp (pt_chain h1 h2 ha hb hc hm) fun σ H Q h => ?_
  obtain ⟨w, e, s, I, h⟩ := h
  show tChain r r' (tE G Fa) (tE G Fb) (tE G Fc) σ H fun x H' => ∃ k, x = .bl k ∧ Q k H'
  refine chain_of h1' h2' ⟨w, e, s, I, holds_imp (holds_bind h) fun d s1 h1 w1 x H1 I1 x1 r1 => ?_⟩
  split at h1
  · rename_i b
    exact ⟨b, rp_bool r1, h1 w1 H1 I1 x1⟩
  · exact h1.elim
/-! ### what stands at the top of a module -/
/-- the written value u is the datum d -/
def Wr (K : PySem.W.Frag) (d : Dat) (u : Value) : Prop := ∃ v, RelV v u ∧ ∀ F as, Rp K as F d v
def WrL (K : PySem.W.Frag) (ds : List Dat) (us : List Value) : Prop := ∃ vs, Vals vs us ∧ ∀ F as, RpL K as F ds vs
def Top (K : PySem.W.Frag) (mg : Str → Option Value) (x : Str) (d : Dat) : Prop := ∃ u, mg x = some u ∧ Wr K d u
theorem wr_int {K : PySem.W.Frag} {i : Int} {t} : Wr K (.int i) (.int i t) := ⟨.int i, ⟨t, rfl⟩, fun _ _ => rp_i⟩
theorem wr_str {K : PySem.W.Frag} {i : Str} {t} : Wr K (.str i) (.str i t) := ⟨.str i, ⟨t, rfl⟩, fun _ _ => rp_s⟩
theorem wr_nil {K : PySem.W.Frag} : WrL K [] [] := ⟨[], .nil, fun _ _ => RpL.nil⟩
theorem wr_cons {K : PySem.W.Frag} {d : Dat} {u : Value} {ds : List Dat} {us : List Value} (h : Wr K d u) (h2 : WrL K ds us) : WrL K (d :: ds) (u :: us) := by
  obtain ⟨v, r, p⟩ := h
  obtain ⟨vs, rs, ps⟩ := h2
  exact ⟨v :: vs, .cons r rs, fun F as => RpL.cons (p F as) (ps F as)⟩
theorem wr_tup {K : PySem.W.Frag} {ds : List Dat} {a : Addr} {od : Option Addr} {us : List Value} {n : Nat} {sl : Array (Option Value)} (l : K.lookup a = some ⟨.type "tuple", od, .seq us.toArray n, sl⟩) (h : WrL K ds us) (hz : us.length ≤ sizeLine := by simp [sizeLine_eq]) : Wr K (.tuple ds) (.ref a) := by
  obtain ⟨vs, rs, ps⟩ := h
  refine ⟨.ref a, rfl, fun F as => ?_⟩
  simp only [Rp]
  exact ⟨a, vs, rfl, .inr ⟨_, _, _, l, rfl, rfl, by simpa using hz, by simpa using rs⟩, ps F as⟩
theorem de_top {x : Str} {d : Dat} {pos : Pos} (t : Top G.K X.mg x d) (hg : Gl X x := by rfl) (hd : (x == ("__debug__" : Str)) = false := by decide) : PE X (.Name x pos) (tE G (fC d)) := by
  obtain ⟨u, hm, v, r, p⟩ := t
  exact de_glob hm r p hg hd
end
end DL

namespace DL
open PySem PySem.Spec PyProof.Rows L2
section
variable {X : Cx} {G : Gx}
/-! ### x.extend(a new list) -/
@[simp] def sExtend (i : Nat) (F : FA) : FS := fun e s => (F e s).flo fun ys s1 => match e[i]? with
  | some (.ow ds) => if ds.length + ys.length ≤ sizeLine then .nx (e.set i (.ow (ds ++ ys))) s1 else .bad
  | _ => .bad
theorem ds_extend (i : Nat) {x : Str} {a : Expr} {px apos cpos pos : Pos} {F : FA} (ha : PE X a (tN G F)) (hi : X.N[i]? = some x := by rfl) (hx : Vis X.env.scope x := by first | exact Or.inl rfl | exact Or.inr (Or.inl rfl) | exact Or.inr (Or.inr rfl)) (hd : (x == ("__debug__" : Str)) = false := by decide) (hcd : (x == ("__classdict__" : Str)) = false := by decide)
    (hsw : swapsWith (.Call (.Attribute (.Name x px) "extend" apos) [a] [] cpos) none pos.line X.env = pure false := by rfl)
    (hbase : attributeBase (.Name x px) "extend" X.env (eval (.Name x px) X.env) = eval (.Name x px) X.env := by rfl)
    (hfew : ((backTo cpos (starEach [a] X.env)).all (fun x => !x.1) && (backToKw cpos (keywordEach [] X.env)).all (fun x => x.1.isSome)
      && decide (([a] : List Expr).length + ([] : List Keyword).length + (if ([] : List Keyword).isEmpty then 0 else 1) < 30)) = true := by rfl)
    (hline : (apos.endLine == cpos.line) = true := by rfl) (hs1 : starEach [a] X.env = (false, eval a X.env) :: starEach [] X.env := by rfl) (hplain : (backTo cpos (starEach [] X.env)).any (·.1) = false := by rfl) :
    PS X (.Expr (.Call (.Attribute (.Name x px) "extend" apos) [a] [] cpos) pos) (tS G (sExtend i F)) :=
  PS_imp (ps_expr (pe_bm PySem.F.plainAttrs_list PySem.F.slot_list_extend PySem.F.type_list_extend mt_extend (pe_var (i := i) hi hx hd hcd) (pa_cons ha pa_nil hs1) hbase hfew hline hs1 hplain) hsw) fun D σ H ⟨w, e, s, I, h⟩ => by
    unfold sExtend at h
    have hown : ∃ ds, e[i]? = some (.ow ds) := by
      cases q : F e s with
      | bad => rw [q] at h; exact h.elim
      | ok d s1 =>
        rw [q] at h
        simp only [flo_ok] at h
        split at h
        · rename_i ds hds
          exact ⟨ds, hds⟩
        · exact h.elim
    obtain ⟨ds, hds⟩ := hown
    obtain ⟨p, vs, g1, g2, g3, g4, g5, g6⟩ := I.own i ds hds
    refine ⟨.ref p, g1, Or.inl ⟨rfl, _, Or.inl (Or.inl g5)⟩, w, e, s, I, holds_imp (flo_holds h) fun ys s1 h1 w1 q us H1 I1 x1 k1 k2 k3 k4 k5 k6 => ?_⟩
    rw [hds] at h1
    simp only at h1
    split at h1
    · rename_i c
      obtain ⟨p', vs', l1, l2, l3, l4, l5, l6⟩ := I1.own i ds hds
      rw [g1] at l1; cases l1
      refine ⟨p, q, vs', us, rfl, rfl, l5, k5, by rw [l6.length, k6.length]; exact c, ?_⟩
      refine h1 w1 σ _ (I1.writeOwn hds g1 (l6.append k6)) (x1.trans (write_f l2))
    · exact h1.elim
/-! ### x, y = [..], b with a list of one's own -/
@[simp] def sParOwn (i j : Nat) (Fs : FA) (Fb : FE) : FS := fun e s => (Fs e s).flo fun ds s1 => (Fb e s1).flo fun d s2 => if i < e.length ∧ j < e.length ∧ ds.length ≤ sizeLine then .nx ((e.set i (.ow ds)).set j (.fz d)) s2 else .bad
theorem ds_parOwn (i j : Nat) {x y : Str} {es : List Expr} {b : Expr} {Fs : FA} {Fb : FE} {px py pt pos pos2 : Pos} {kt k2 pt2} (hc : X.calm = true) (hN : X.N.Nodup) (ha : PA X es (tA G Fs)) (hb : PE X b (tE G Fb)) (hi : X.N[i]? = some x := by rfl) (hj : X.N[j]? = some y := by rfl) (hij : i ≠ j := by decide)
    (hx : X.env.scope.names.lookup x = some .local := by rfl) (hy : X.env.scope.names.lookup y = some .local := by rfl)
    (hw : swappedStores [.Tuple [.Name x px, .Name y py] kt pt] (.Tuple [.List es pos2, b] k2 pt2) X.env = pure (some [x, y]) := by rfl)
    (hs : swapsWithSole [.Tuple [.Name x px, .Name y py] kt pt] (.Tuple [.List es pos2, b] k2 pt2) pos.line X.env = pure false := by rfl)
    (hs1 : starEach [.List es pos2, b] X.env = (false, eval (.List es pos2) X.env) :: starEach [b] X.env := by rfl) (hs2 : starEach [b] X.env = (false, eval b X.env) :: starEach [] X.env := by rfl) :
    PS X (.Assign [.Tuple [.Name x px, .Name y py] kt pt] (.Tuple [.List es pos2, b] k2 pt2) pos) (tS G (sParOwn i j Fs Fb)) := PS_imp (ps_par hc hN hi hj hij hx hy (pa_cons (pe_lst ha) (pa_cons hb pa_nil hs2) hs1) hw hs) fun D σ H ⟨w, e, s, I, h⟩ => by
  refine ⟨w, e, s, I, holds_imp (flo_holds h) fun ds s1 h1 w1 vs H1 I1 x1 r1 => ?_⟩
  have hlen : ds.length ≤ sizeLine := by
    cases q : Fb e s1 with
    | bad => rw [q] at h1; exact h1.elim
    | ok d s2 =>
      rw [q] at h1
      simp only [flo_ok] at h1
      split at h1
      · rename_i c; exact c.2.2
      · exact h1.elim
  refine ⟨by rw [r1.length]; exact hlen, fun p hp => ?_⟩
  refine ⟨w1.plus p, e, s1, I1.plus hp, holds_imp (flo_holds h1) fun d s2 h2 w2 v H2 I2 x2 r2 => ?_⟩
  split at h2
  · rename_i c
    refine ⟨_, _, rfl, ?_⟩
    have ow : w2.ow p := by rw [x2.ow]; exact .inr rfl
    have hH : H2 p = some (.lst vs) := (x2.own p (.inr rfl)).trans upd_same
    have rr : RpL G.K w2.as (Fz w2 H2) ds vs := x2.rpl (by rw [Fz_plus hp]; exact r1)
    exact h2 w2 _ H2 ((I2.setOwn c.1 ow (I1.fresh0 hp) (I1.freshO0 hp) (I1.lone hp) hH rr).set (by rw [List.length_set]; exact c.2.1) r2) (x1.f.trans ((plus_f hp).trans x2.f))
  · exact h2.elim
end
end DL

namespace DL
open PySem PySem.Spec PyProof.Rows L2
abbrev gSub : Dat → Dat → Sto → Res Dat := gII0 (· - ·)
abbrev gMul : Dat → Dat → Sto → Res Dat := gII cMul (· * ·)
abbrev gDiv : Dat → Dat → Sto → Res Dat := gII cDiv (· / ·)
abbrev gMod : Dat → Dat → Sto → Res Dat := gII cMod (· % ·)
abbrev gPow : Dat → Dat → Sto → Res Dat := gII cPow fun i j => i ^ j.toNat
abbrev gShl : Dat → Dat → Sto → Res Dat := gII cPow fun i j => i * 2 ^ j.toNat
abbrev gLt : Dat → Dat → Sto → Res Dat := gIB fun i j => decide (i < j)
abbrev gLe : Dat → Dat → Sto → Res Dat := gIB fun i j => decide (i ≤ j)
abbrev gGt : Dat → Dat → Sto → Res Dat := gIB fun i j => decide (j < i)
abbrev gGe : Dat → Dat → Sto → Res Dat := gIB fun i j => decide (j ≤ i)
@[simp] theorem size_line : sizeLine = 16777216 := sizeLine_eq
@[simp] theorem shaped_int (i : Int) : SeqAt.shaped (.int i) = true := by simp [SeqAt.shaped, PyData.canLay0, PyData.depth]
@[simp] theorem shaped_bool (i : Bool) : SeqAt.shaped (.bool i) = true := by simp [SeqAt.shaped, PyData.canLay0, PyData.depth]
@[simp] theorem shaped_none : SeqAt.shaped .none = true := by simp [SeqAt.shaped, PyData.canLay0, PyData.depth]
@[simp] theorem eqv_int (i j : Int) : PyData.eqv (.int i) (.int j) = (i == j) := by simp [PyData.eqv]
theorem at_pos {α : Type} {l : List α} {i : Int} {j : Nat} {a : α} (n : Nat) (hi : i = (j : Int)) (h : l[j]? = some a) : L2.atI l i = some a := by
  rw [hi]
  exact L2.atI_nat h
@[simp] theorem at_0 {α : Type} (a : α) (r : List α) : L2.atI (a :: r) 0 = some a := at_pos (j := 0) 0 rfl rfl
@[simp] theorem at_1 {α : Type} (a b : α) (r : List α) : L2.atI (a :: b :: r) 1 = some b := at_pos (j := 1) 0 rfl rfl
@[simp] theorem at_2 {α : Type} (a b c : α) (r : List α) : L2.atI (a :: b :: c :: r) 2 = some c := at_pos (j := 2) 0 rfl rfl
@[simp] theorem at_3 {α : Type} (a b c d : α) (r : List α) : L2.atI (a :: b :: c :: d :: r) 3 = some d := at_pos (j := 3) 0 rfl rfl
@[simp] theorem at_4 {α : Type} (a b c d e : α) (r : List α) : L2.atI (a :: b :: c :: d :: e :: r) 4 = some e := at_pos (j := 4) 0 rfl rfl
@[simp] theorem at_5 {α : Type} (a b c d e f : α) (r : List α) : L2.atI (a :: b :: c :: d :: e :: f :: r) 5 = some f := at_pos (j := 5) 0 rfl rfl
@[simp] theorem at_6 {α : Type} (a b c d e f g : α) (r : List α) : L2.atI (a :: b :: c :: d :: e :: f :: g :: r) 6 = some g := at_pos (j := 6) 0 rfl rfl
@[simp] theorem at_7 {α : Type} (a b c d e f g h : α) (r : List α) : L2.atI (a :: b :: c :: d :: e :: f :: g :: h :: r) 7 = some h := at_pos (j := 7) 0 rfl rfl
@[simp] theorem eqv_bool (i j : Bool) : PyData.eqv (.bool i) (.bool j) = (i == j) := by simp [PyData.eqv]
/-- the end: what the law's def does with the script -/
theorem law_end {K : PySem.W.Frag} {H : Hp} {a : Addr} {ns : List Int} {g : List Dat → Sto → Res Dat} {E : XK} (hS : SqL K H a (ns.map V.int)) (h : ∃ s, g [seal_ ns] [] = .ok (.bool true) s) : spF K g [.ref a] H (fun v _ => v = .bl true) E := by
  obtain ⟨s', h⟩ := h
  refine ⟨⟨[], fun _ => False⟩, [seal_ ns], [], ⟨rfl, fun n ds h => by simp at h, by simp, fun a ha => by simp at ha, fun a ha => ha.elim⟩, ?_, ?_⟩
  · refine RpL.one ?_
    simp only [Rp]
    refine ⟨a, ns, rfl, rfl, ?_⟩
    refine sqL_mono (F := H) (fun b o hb => ?_) hS
    exact Fz_of hb (by simp) fun q => q
  · rw [h]
    intro w' v H' _ _ _ _ _ _ r
    exact rp_bool r
end DL

namespace LW
open PySem DL
noncomputable section
def C1_common : FT := fun e s => (fB (fBin gGt (fVar 1) (fC (.int 0)))) e s
def B1_common : FS := fun e s => (sPar 0 1 (fCons (fVar 1) (fCons (fBin gMod (fVar 0) (fVar 1)) fNil))) e s
def F_common : FS := (sSeq (sPar 0 1 (fCons (fCall gAbs (fCons (fVar 0) fNil)) (fCons (fCall gAbs (fCons (fVar 1) fNil)) fNil)))
    (sSeq (sWhile C1_common B1_common)
    (sRet (fVar 0))))
def g_common : List Dat → Sto → Res Dat := runF 2 2 F_common
def F_frac : FS := (sSeq (sIf (fB (fBin gLt (fVar 1) (fC (.int 0)))) (sPar 0 1 (fCons (fUn gNeg (fVar 0)) (fCons (fUn gNeg (fVar 1)) fNil))) sNext)
    (sSeq (sSet 2 (fCall g_common (fCons (fVar 0) (fCons (fVar 1) fNil))))
    (sRet (fTup (fCons (fBin gDiv (fVar 0) (fVar 2)) (fCons (fBin gDiv (fVar 1) (fVar 2)) fNil))))))
def g_frac : List Dat → Sto → Res Dat := runF 2 3 F_frac
def E1_is_frac : FE := fun e s => (fAndV (fUn (gIsi "int") (fVar 1)) (fNotV (fUn (gIsi "bool") (fVar 1)))) e s
def F_is_frac : FS := (sSeq (sIf (fOr (fNot (fB (fUn (gIsi "tuple") (fVar 0)))) (fB (fBin gNe (fCall gLen (fCons (fVar 0) fNil)) (fC (.int 2))))) (sRet (fC (.bool false))) sNext)
    (sSeq (sIf (fNot (fB (fCall gAll (fCons (fLc (fIter (fVar 0)) (gSet 1) cYes E1_is_frac [1]) fNil)))) (sRet (fC (.bool false))) sNext)
    (sRet (fAndV (fBin gGt (fBin gIx (fVar 0) (fC (.int 1))) (fC (.int 0))) (fBin gEq (fCall g_common (fCons (fBin gIx (fVar 0) (fC (.int 0))) (fCons (fBin gIx (fVar 0) (fC (.int 1))) fNil))) (fC (.int 1)))))))
def g_is_frac : List Dat → Sto → Res Dat := runF 1 2 F_is_frac
def F_sub : FS := (sRet (fCall g_frac (fCons (fBin gSub (fBin gMul (fBin gIx (fVar 0) (fC (.int 0))) (fBin gIx (fVar 1) (fC (.int 1)))) (fBin gMul (fBin gIx (fVar 1) (fC (.int 0))) (fBin gIx (fVar 0) (fC (.int 1))))) (fCons (fBin gMul (fBin gIx (fVar 0) (fC (.int 1))) (fBin gIx (fVar 1) (fC (.int 1)))) fNil))))
def g_sub : List Dat → Sto → Res Dat := runF 2 2 F_sub
def F_mul : FS := (sRet (fCall g_frac (fCons (fBin gMul (fBin gIx (fVar 0) (fC (.int 0))) (fBin gIx (fVar 1) (fC (.int 0)))) (fCons (fBin gMul (fBin gIx (fVar 0) (fC (.int 1))) (fBin gIx (fVar 1) (fC (.int 1)))) fNil))))
def g_mul : List Dat → Sto → Res Dat := runF 2 2 F_mul
def F_div : FS := (sRet (fCall g_frac (fCons (fBin gMul (fBin gIx (fVar 0) (fC (.int 0))) (fBin gIx (fVar 1) (fC (.int 1)))) (fCons (fBin gMul (fBin gIx (fVar 0) (fC (.int 1))) (fBin gIx (fVar 1) (fC (.int 0)))) fNil))))
def g_div : List Dat → Sto → Res Dat := runF 2 2 F_div
def F_sign_of : FS := (sRet (fIf (fB (fBin gGt (fVar 0) (fC (.int 0)))) (fC (.int 1)) (fIf (fB (fBin gEq (fVar 0) (fC (.int 0)))) (fC (.int 0)) (fUn gNeg (fC (.int 1))))))
def g_sign_of : List Dat → Sto → Res Dat := runF 1 1 F_sign_of
def F_compare : FS := (sRet (fCall g_sign_of (fCons (fBin gSub (fBin gMul (fBin gIx (fVar 0) (fC (.int 0))) (fBin gIx (fVar 1) (fC (.int 1)))) (fBin gMul (fBin gIx (fVar 1) (fC (.int 0))) (fBin gIx (fVar 0) (fC (.int 1))))) fNil)))
def g_compare : List Dat → Sto → Res Dat := runF 2 2 F_compare
def F_middle : FS := (sRet (fCall g_frac (fCons (fBin gAdd (fBin gMul (fBin gIx (fVar 0) (fC (.int 0))) (fBin gIx (fVar 1) (fC (.int 1)))) (fBin gMul (fBin gIx (fVar 1) (fC (.int 0))) (fBin gIx (fVar 0) (fC (.int 1))))) (fCons (fBin gMul (fBin gMul (fC (.int 2)) (fBin gIx (fVar 0) (fC (.int 1)))) (fBin gIx (fVar 1) (fC (.int 1)))) fNil))))
def g_middle : List Dat → Sto → Res Dat := runF 2 2 F_middle
def B1_whole : FS := fun e s => (sSet 1 (fBin gMul (fBin gDiv (fVar 1) (fCall g_common (fCons (fVar 1) (fCons (fVar 3) fNil)))) (fVar 3))) e s
def E2_whole : FE := fun e s => (fBin gMul (fVar 2) (fBin gDiv (fVar 1) (fVar 3))) e s
def E3_whole : FE := fun e s => (fBin gDiv (fVar 6) (fCall gMax (fCons (fLst (fCons (fC (.int 1)) (fCons (fVar 5) fNil))) fNil))) e s
def F_whole : FS := (sSeq (sSet 1 (fC (.int 1)))
    (sSeq (sFor (fIter (fVar 0)) (gTupT 2 (gsCons (gSet 2) (gsCons (gSet 3) gsNil))) B1_whole)
    (sSeq (sSet 4 (fLc (fIter (fVar 0)) (gTupT 2 (gsCons (gSet 2) (gsCons (gSet 3) gsNil))) cYes E2_whole [2, 3]))
    (sSeq (sSet 5 (fCall g_common (fCons (fCall g_common (fCons (fBin gIx (fVar 4) (fC (.int 0))) (fCons (fBin gIx (fVar 4) (fC (.int 1))) fNil))) (fCons (fBin gIx (fVar 4) (fC (.int 2))) fNil))))
    (sRet (fCall gTupOf (fCons (fLc (fIter (fVar 4)) (gSet 6) cYes E3_whole [6]) fNil)))))))
def g_whole : List Dat → Sto → Res Dat := runF 1 7 F_whole
def F_sign_at : FS := (sSeq (sAsg (fVar 1) (gTupT 2 (gsCons (gSet 2) (gsCons (gSet 3) gsNil))))
    (sRet (fCall g_sign_of (fCons (fBin gAdd (fBin gAdd (fBin gMul (fBin gMul (fBin gIx (fVar 0) (fC (.int 0))) (fVar 3)) (fVar 3)) (fBin gMul (fBin gMul (fBin gIx (fVar 0) (fC (.int 1))) (fVar 2)) (fVar 3))) (fBin gMul (fBin gMul (fBin gIx (fVar 0) (fC (.int 2))) (fVar 2)) (fVar 2))) fNil))))
def g_sign_at : List Dat → Sto → Res Dat := runF 2 4 F_sign_at
def C1_root_of : FT := fun e s => (fB (fBin gGt (fBin gSub (fVar 2) (fVar 1)) (fC (.int 1)))) e s
def B1_root_of : FS := fun e s => (sSeq (sSet 3 (fBin gDiv (fBin gAdd (fVar 1) (fVar 2)) (fC (.int 2))))
    (sIf (fB (fBin gLe (fBin gMul (fVar 3) (fVar 3)) (fVar 0))) (sSet 1 (fVar 3)) (sSet 2 (fVar 3)))) e s
def F_root_of : FS := (sSeq (sPar 1 2 (fCons (fC (.int 0)) (fCons (fBin gAdd (fVar 0) (fC (.int 1))) fNil)))
    (sSeq (sWhile C1_root_of B1_root_of)
    (sRet (fVar 1))))
def g_root_of : List Dat → Sto → Res Dat := runF 1 4 F_root_of
def F_ordered : FS := (sSeq (sIf (fAnd (fB (fBin gEq (fCall gLen (fCons (fVar 0) fNil)) (fC (.int 2)))) (fB (fBin gGt (fBin gMul (fBin gIx (fBin gIx (fVar 0) (fC (.int 0))) (fC (.int 0))) (fBin gIx (fBin gIx (fVar 0) (fC (.int 1))) (fC (.int 1)))) (fBin gMul (fBin gIx (fBin gIx (fVar 0) (fC (.int 1))) (fC (.int 0))) (fBin gIx (fBin gIx (fVar 0) (fC (.int 0))) (fC (.int 1))))))) (sRet (fLst (fCons (fBin gIx (fVar 0) (fC (.int 1))) (fCons (fBin gIx (fVar 0) (fC (.int 0))) fNil)))) sNext)
    (sRet (fVar 0)))
def g_ordered : List Dat → Sto → Res Dat := runF 1 1 F_ordered
def F_roots : FS := (sSeq (sAsg (fVar 0) (gTupT 3 (gsCons (gSet 1) (gsCons (gSet 2) (gsCons (gSet 3) gsNil)))))
    (sSeq (sIf (fB (fBin gEq (fVar 3) (fC (.int 0)))) (sRet (fIf (fB (fBin gEq (fVar 2) (fC (.int 0)))) (fLst fNil) (fLst (fCons (fCall g_frac (fCons (fUn gNeg (fVar 1)) (fCons (fVar 2) fNil))) fNil)))) sNext)
    (sSeq (sSet 4 (fBin gSub (fBin gMul (fVar 2) (fVar 2)) (fBin gMul (fBin gMul (fC (.int 4)) (fVar 1)) (fVar 3))))
    (sSeq (sIf (fB (fBin gLt (fVar 4) (fC (.int 0)))) (sRet (fLst fNil)) sNext)
    (sSeq (sSet 5 (fCall g_root_of (fCons (fVar 4) fNil)))
    (sSeq (sIf (fB (fBin gEq (fBin gMul (fVar 5) (fVar 5)) (fVar 4))) (sSeq (sPar 7 8 (fCons (fCall g_frac (fCons (fBin gSub (fUn gNeg (fVar 2)) (fVar 5)) (fCons (fBin gMul (fC (.int 2)) (fVar 3)) fNil))) (fCons (fCall g_frac (fCons (fBin gAdd (fUn gNeg (fVar 2)) (fVar 5)) (fCons (fBin gMul (fC (.int 2)) (fVar 3)) fNil))) fNil)))
    (sRet (fIf (fB (fBin gEq (fVar 7) (fVar 8))) (fLst (fCons (fVar 7) fNil)) (fCall g_ordered (fCons (fLst (fCons (fVar 7) (fCons (fVar 8) fNil))) fNil))))) sNext)
    (sSeq (sSet 6 (fIf (fB (fBin gGt (fVar 3) (fC (.int 0)))) (fVar 0) (fTup (fCons (fUn gNeg (fVar 1)) (fCons (fUn gNeg (fVar 2)) (fCons (fUn gNeg (fVar 3)) fNil))))))
    (sRet (fLst (fCons (fTup (fCons (fC (.str "root")) (fCons (fVar 6) (fCons (fC (.int 0)) fNil)))) (fCons (fTup (fCons (fC (.str "root")) (fCons (fVar 6) (fCons (fC (.int 1)) fNil)))) fNil)))))))))))
def g_roots : List Dat → Sto → Res Dat := runF 1 9 F_roots
def F_rest : FS := (sSeq (sAsg (fVar 1) (gTupT 3 (gsCons (gSet 2) (gsCons (gSet 3) (gsCons (gSet 4) gsNil)))))
    (sSeq (sSet 5 (fCall g_frac (fCons (fBin gIx (fVar 0) (fC (.int 2))) (fCons (fVar 4) fNil))))
    (sRet (fTup (fCons (fCall g_sub (fCons (fCall g_frac (fCons (fBin gIx (fVar 0) (fC (.int 0))) (fCons (fC (.int 1)) fNil))) (fCons (fCall g_mul (fCons (fVar 5) (fCons (fCall g_frac (fCons (fVar 2) (fCons (fC (.int 1)) fNil))) fNil))) fNil))) (fCons (fCall g_sub (fCons (fCall g_frac (fCons (fBin gIx (fVar 0) (fC (.int 1))) (fCons (fC (.int 1)) fNil))) (fCons (fCall g_mul (fCons (fVar 5) (fCons (fCall g_frac (fCons (fVar 3) (fCons (fC (.int 1)) fNil))) fNil))) fNil))) fNil))))))
def g_rest : List Dat → Sto → Res Dat := runF 2 6 F_rest
def F_root_side : FS := (sSeq (sAsg (fVar 0) (gTupT 3 (gsCons (gSet 2) (gsCons (gSet 3) (gsCons (gSet 4) gsNil)))))
    (sSeq (sIf (fB (fBin gLt (fCall g_sign_at (fCons (fVar 3) (fCons (fVar 1) fNil))) (fC (.int 0)))) (sRet (fIf (fB (fBin gEq (fVar 4) (fC (.int 1)))) (fC (.int 1)) (fUn gNeg (fC (.int 1))))) sNext)
    (sRet (fCall g_sign_of (fCons (fBin gSub (fBin gMul (fUn gNeg (fBin gIx (fVar 3) (fC (.int 1)))) (fBin gIx (fVar 1) (fC (.int 1)))) (fBin gMul (fBin gMul (fC (.int 2)) (fBin gIx (fVar 3) (fC (.int 2)))) (fBin gIx (fVar 1) (fC (.int 0))))) fNil)))))
def g_root_side : List Dat → Sto → Res Dat := runF 2 5 F_root_side
def F_sign_on : FS := (sSeq (sIf (fB (fBin gNe (fBin gIx (fVar 1) (fC (.int 0))) (fC (.str "root")))) (sRet (fCall g_sign_at (fCons (fVar 0) (fCons (fVar 1) fNil)))) sNext)
    (sSeq (sAsg (fCall g_rest (fCons (fVar 0) (fCons (fBin gIx (fVar 1) (fC (.int 1))) fNil))) (gTupT 2 (gsCons (gSet 2) (gsCons (gSet 3) gsNil))))
    (sSeq (sIf (fB (fBin gEq (fBin gIx (fVar 3) (fC (.int 0))) (fC (.int 0)))) (sRet (fCall g_sign_of (fCons (fBin gIx (fVar 2) (fC (.int 0))) fNil))) sNext)
    (sRet (fBin gMul (fCall g_sign_of (fCons (fBin gIx (fVar 3) (fC (.int 0))) fNil)) (fCall g_root_side (fCons (fVar 1) (fCons (fCall g_div (fCons (fCall g_frac (fCons (fUn gNeg (fBin gIx (fVar 2) (fC (.int 0)))) (fCons (fBin gIx (fVar 2) (fC (.int 1))) fNil))) (fCons (fVar 3) fNil))) fNil))))))))
def g_sign_on : List Dat → Sto → Res Dat := runF 2 4 F_sign_on
def F_order_of : FS := (sSeq (sIf (fAnd (fB (fBin gNe (fBin gIx (fVar 0) (fC (.int 0))) (fC (.str "root")))) (fB (fBin gNe (fBin gIx (fVar 1) (fC (.int 0))) (fC (.str "root"))))) (sRet (fCall g_compare (fCons (fVar 0) (fCons (fVar 1) fNil)))) sNext)
    (sSeq (sIf (fB (fBin gEq (fVar 0) (fVar 1))) (sRet (fC (.int 0))) sNext)
    (sSeq (sIf (fB (fBin gNe (fBin gIx (fVar 1) (fC (.int 0))) (fC (.str "root")))) (sRet (fCall g_root_side (fCons (fVar 0) (fCons (fVar 1) fNil)))) sNext)
    (sSeq (sIf (fB (fBin gNe (fBin gIx (fVar 0) (fC (.int 0))) (fC (.str "root")))) (sRet (fUn gNeg (fCall g_root_side (fCons (fVar 1) (fCons (fVar 0) fNil))))) sNext)
    (sSeq (sAsg (fVar 1) (gTupT 3 (gsCons (gSet 2) (gsCons (gSet 3) (gsCons (gSet 4) gsNil)))))
    (sSeq (sIf (fB (fBin gEq (fBin gIx (fVar 0) (fC (.int 1))) (fVar 3))) (sRet (fCall g_sign_of (fCons (fBin gSub (fBin gIx (fVar 0) (fC (.int 2))) (fVar 4)) fNil))) sNext)
    (sSeq (sSet 5 (fCall g_sign_on (fCons (fVar 3) (fCons (fVar 0) fNil))))
    (sSeq (sIf (fB (fBin gLt (fVar 5) (fC (.int 0)))) (sRet (fIf (fB (fBin gEq (fVar 4) (fC (.int 0)))) (fC (.int 1)) (fUn gNeg (fC (.int 1))))) sNext)
    (sRet (fCall g_sign_on (fCons (fTup (fCons (fBin gIx (fVar 3) (fC (.int 1))) (fCons (fBin gMul (fC (.int 2)) (fBin gIx (fVar 3) (fC (.int 2)))) (fCons (fC (.int 0)) fNil)))) (fCons (fVar 0) fNil))))))))))))
def g_order_of : List Dat → Sto → Res Dat := runF 2 6 F_order_of
def E1_is_place : FE := fun e s => (fAndV (fUn (gIsi "int") (fVar 2)) (fNotV (fUn (gIsi "bool") (fVar 2)))) e s
def E2_is_place : FE := fun e s => (fTup (fCons (fVar 2) (fCons (fC (.int 1)) fNil))) e s
def F_is_place : FS := (sSeq (sIf (fB (fCall g_is_frac (fCons (fVar 0) fNil))) (sRet (fAndV (fBin gLt (fCall g_compare (fCons (fC (.tuple [(.int 0), (.int 1)])) (fCons (fVar 0) fNil))) (fC (.int 0))) (fBin gLt (fCall g_compare (fCons (fVar 0) (fCons (fC (.tuple [(.int 1), (.int 1)])) fNil))) (fC (.int 0))))) sNext)
    (sSeq (sIf (fOr (fNot (fB (fUn (gIsi "tuple") (fVar 0)))) (fOr (fB (fBin gNe (fCall gLen (fCons (fVar 0) fNil)) (fC (.int 3)))) (fOr (fB (fBin gNe (fBin gIx (fVar 0) (fC (.int 0))) (fC (.str "root")))) (fB (fBin gNotIn (fBin gIx (fVar 0) (fC (.int 2))) (fTup (fCons (fC (.int 0)) (fCons (fC (.int 1)) fNil)))))))) (sRet (fC (.bool false))) sNext)
    (sSeq (sSet 1 (fBin gIx (fVar 0) (fC (.int 1))))
    (sSeq (sIf (fOr (fNot (fB (fUn (gIsi "int") (fBin gIx (fVar 0) (fC (.int 2)))))) (fOr (fB (fUn (gIsi "bool") (fBin gIx (fVar 0) (fC (.int 2))))) (fOr (fNot (fB (fUn (gIsi "tuple") (fVar 1)))) (fB (fBin gNe (fCall gLen (fCons (fVar 1) fNil)) (fC (.int 3))))))) (sRet (fC (.bool false))) sNext)
    (sSeq (sIf (fNot (fB (fCall gAll (fCons (fLc (fIter (fVar 1)) (gSet 2) cYes E1_is_place [2]) fNil)))) (sRet (fC (.bool false))) sNext)
    (sSeq (sIf (fB (fBin gNe (fCall g_whole (fCons (fCall gTupOf (fCons (fLc (fIter (fVar 1)) (gSet 2) cYes E2_is_place [2]) fNil)) fNil)) (fVar 1))) (sRet (fC (.bool false))) sNext)
    (sRet (fAndV (fBin gIn (fVar 0) (fCall g_roots (fCons (fVar 1) fNil))) (fAndV (fBin gLt (fCall g_order_of (fCons (fC (.tuple [(.int 0), (.int 1)])) (fCons (fVar 0) fNil))) (fC (.int 0))) (fBin gLt (fCall g_order_of (fCons (fVar 0) (fCons (fC (.tuple [(.int 1), (.int 1)])) fNil))) (fC (.int 0))))))))))))
def g_is_place : List Dat → Sto → Res Dat := runF 1 3 F_is_place
def C1_between : FT := fun e s => (fB (fC (.bool true))) e s
def B1_between : FS := fun e s => (sSeq (sSet 4 (fCall g_middle (fCons (fVar 2) (fCons (fVar 3) fNil))))
    (sIf (fB (fBin gGe (fCall g_order_of (fCons (fVar 0) (fCons (fVar 4) fNil))) (fC (.int 0)))) (sSet 2 (fVar 4)) (sIf (fB (fBin gGe (fCall g_order_of (fCons (fVar 4) (fCons (fVar 1) fNil))) (fC (.int 0)))) (sSet 3 (fVar 4)) (sRet (fVar 4))))) e s
def F_between : FS := (sSeq (sPar 2 3 (fCons (fC (.tuple [(.int 0), (.int 1)])) (fCons (fC (.tuple [(.int 1), (.int 1)])) fNil)))
    (sWhile C1_between B1_between))
def g_between : List Dat → Sto → Res Dat := runF 2 5 F_between
def C1_put_in : FT := fun e s => (fAnd (fB (fBin gLt (fVar 3) (fCall gLen (fCons (fVar 2) fNil)))) (fB (fBin gLt (fCall g_order_of (fCons (fBin gIx (fVar 2) (fVar 3)) (fCons (fVar 1) fNil))) (fC (.int 0))))) e s
def B1_put_in : FS := fun e s => (sAug 3 (· + ·) (fC (.int 1))) e s
def F_put_in : FS := (sSeq (sPar 2 3 (fCons (fCall gLstOf (fCons (fVar 0) fNil)) (fCons (fC (.int 0)) fNil)))
    (sSeq (sWhile C1_put_in B1_put_in)
    (sSeq (sIf (fAnd (fB (fBin gLt (fVar 3) (fCall gLen (fCons (fVar 2) fNil)))) (fB (fBin gEq (fBin gIx (fVar 2) (fVar 3)) (fVar 1)))) (sRet (fVar 2)) sNext)
    (sRet (fBin gAdd (fBin gAdd (fSl (fVar 2) fNo (fSome (fVar 3))) (fLst (fCons (fVar 1) fNil))) (fSl (fVar 2) (fSome (fVar 3)) fNo))))))
def g_put_in : List Dat → Sto → Res Dat := runF 2 4 F_put_in
def B1_places_of : FS := fun e s => (sIf (fAnd (fB (fBin gLt (fCall g_order_of (fCons (fC (.tuple [(.int 0), (.int 1)])) (fCons (fVar 3) fNil))) (fC (.int 0)))) (fB (fBin gLt (fCall g_order_of (fCons (fVar 3) (fCons (fC (.tuple [(.int 1), (.int 1)])) fNil))) (fC (.int 0))))) (sSet 1 (fCall g_put_in (fCons (fVar 1) (fCons (fVar 3) fNil)))) sNext) e s
def B2_places_of : FS := fun e s => (sFor (fIter (fCall g_roots (fCons (fVar 2) fNil))) (gSet 3) B1_places_of) e s
def F_places_of : FS := (sSeq (sSet 1 (fLst fNil))
    (sSeq (sFor (fIter (fVar 0)) (gSet 2) B2_places_of)
    (sRet (fVar 1))))
def g_places_of : List Dat → Sto → Res Dat := runF 1 4 F_places_of
def B1_cells_of : FS := fun e s => (sSeq (sExtend 1 (fun e s => ((fCons (fTup (fCons (fC (.str "between")) (fCons (fVar 2) (fCons (fVar 3) fNil)))) (fCons (fTup (fCons (fC (.str "at")) (fCons (fVar 3) fNil))) fNil)) e s).bind fun ds s1 => if cLen ds then .ok ds s1 else .bad))
    (sSet 2 (fVar 3))) e s
def F_cells_of : FS := (sSeq (sParOwn 1 2 fNil (fC (.tuple [(.int 0), (.int 1)])))
    (sSeq (sFor (fIter (fCall g_places_of (fCons (fVar 0) fNil))) (gSet 3) B1_cells_of)
    (sFreeze 1 (sRet (fBin gAdd (fVar 1) (fLst (fCons (fTup (fCons (fC (.str "between")) (fCons (fVar 2) (fCons (fC (.tuple [(.int 1), (.int 1)])) fNil)))) fNil)))))))
def g_cells_of : List Dat → Sto → Res Dat := runF 1 4 F_cells_of
def F_sample : FS := (sRet (fIf (fB (fBin gEq (fBin gIx (fVar 0) (fC (.int 0))) (fC (.str "at")))) (fBin gIx (fVar 0) (fC (.int 1))) (fCall g_between (fCons (fBin gIx (fVar 0) (fC (.int 1))) (fCons (fBin gIx (fVar 0) (fC (.int 2))) fNil)))))
def g_sample : List Dat → Sto → Res Dat := runF 1 1 F_sample
def B1_is_still : FS := fun e s => (sIf (fAnd (fB (fBin gLt (fCall g_order_of (fCons (fBin gIx (fVar 1) (fC (.int 1))) (fCons (fVar 2) fNil))) (fC (.int 0)))) (fB (fBin gLt (fCall g_order_of (fCons (fVar 2) (fCons (fBin gIx (fVar 1) (fC (.int 2))) fNil))) (fC (.int 0))))) (sRet (fC (.bool false))) sNext) e s
def F_is_still : FS := (sSeq (sIf (fB (fBin gEq (fBin gIx (fVar 1) (fC (.int 0))) (fC (.str "at")))) (sRet (fC (.bool true))) sNext)
    (sSeq (sFor (fIter (fCall g_roots (fCons (fVar 0) fNil))) (gSet 2) B1_is_still)
    (sRet (fC (.bool true)))))
def g_is_still : List Dat → Sto → Res Dat := runF 2 3 F_is_still
def F__law_cell_at : FS := (sSeq (sIf (fB (fBin gLt (fVar 1) (fCall gLen (fCons (fVar 0) fNil)))) (sRet (fBin gIx (fVar 0) (fVar 1))) sNext)
    (sRet (fC (.int 0))))
def g__law_cell_at : List Dat → Sto → Res Dat := runF 2 2 F__law_cell_at
def F__law_draw : FS := (sSeq (sSet 3 (fTup (fCons (fC (.int 1000003)) (fCons (fC (.int 1000033)) (fCons (fC (.int 1000037)) (fCons (fC (.int 1000039)) (fCons (fC (.int 1000081)) (fCons (fC (.int 1000099)) (fCons (fC (.int 1000117)) (fCons (fC (.int 1000121)) (fCons (fC (.int 1000133)) (fCons (fC (.int 1000151)) (fCons (fC (.int 1000159)) (fCons (fC (.int 1000171)) (fCons (fC (.int 1000183)) (fCons (fC (.int 1000187)) (fCons (fC (.int 1000193)) (fCons (fC (.int 1000199)) fNil))))))))))))))))))
    (sRet (fBin gMod (fBin gMod (fCall gInt (fCons (fBin gAdd (fBin gMul (fVar 0) (fC (.int 48271))) (fBin gMul (fVar 1) (fC (.int 69621)))) fNil)) (fBin gIx (fVar 3) (fBin gMod (fCall gInt (fCons (fVar 1) fNil)) (fC (.int 16))))) (fVar 2))))
def g__law_draw : List Dat → Sto → Res Dat := runF 3 4 F__law_draw
def B1__law_number : FS := fun e s => (sSet 3 (fBin gMul (fVar 3) (fC (.int 1009)))) e s
def F__law_number : FS := (sSeq (sSet 3 (fC (.int 1)))
    (sSeq (sFor (fItA gRng1 (fCons (fBin gMod (fCall gInt (fCons (fVar 1) fNil)) (fC (.int 24))) fNil)) (gSet 4) B1__law_number)
    (sSeq (sSet 5 (fBin gDiv (fBin gSub (fVar 0) (fBin gPow (fC (.int 10)) (fC (.int 18)))) (fVar 3)))
    (sSeq (sIf (fB (fBin gGt (fVar 5) (fC (.int 0)))) (sRet (fBin gMod (fBin gMod (fCall gInt (fCons (fVar 5) fNil)) (fC (.int 1009))) (fVar 2))) sNext)
    (sSeq (sSet 6 (fBin gMod (fCall gInt (fCons (fVar 0) fNil)) (fC (.int 1000003))))
    (sRet (fBin gMod (fCall g__law_draw (fCons (fBin gMul (fBin gAdd (fVar 6) (fBin gMul (fC (.int 977)) (fVar 1))) (fBin gAdd (fBin gAdd (fVar 6) (fBin gMul (fC (.int 31)) (fVar 1))) (fC (.int 5)))) (fCons (fBin gAdd (fBin gMod (fCall gInt (fCons (fVar 1) fNil)) (fC (.int 9))) (fC (.int 1))) (fCons (fC (.int 999983)) fNil)))) (fVar 2))))))))
def g__law_number : List Dat → Sto → Res Dat := runF 3 7 F__law_number
def F__law_next : FS := (sSeq (sItem (fVar 0) (fC (.int 2)) (fBin gAdd (fBin gIx (fVar 0) (fC (.int 2))) (fC (.int 1))))
    (sSeq (sSet 2 (fBin gDiv (fBin gIx (fVar 0) (fC (.int 2))) (fC (.int 12))))
    (sSeq (sSet 3 (fBin gAdd (fCall g__law_cell_at (fCons (fBin gIx (fVar 0) (fC (.int 0))) (fCons (fBin gAdd (fBin gIx (fVar 0) (fC (.int 1))) (fVar 2)) fNil))) (fBin gMul (fC (.int 31)) (fVar 2))))
    (sRet (fCall g__law_number (fCons (fVar 3) (fCons (fBin gAdd (fBin gMod (fCall gInt (fCons (fBin gIx (fVar 0) (fC (.int 2))) fNil)) (fC (.int 12))) (fC (.int 1))) (fCons (fVar 1) fNil))))))))
def g__law_next : List Dat → Sto → Res Dat := runF 2 4 F__law_next
def B1__law_common : FS := fun e s => (sSeq (sIf (fB (fBin gEq (fVar 1) (fC (.int 0)))) (sRet (fVar 0)) sNext)
    (sPar 0 1 (fCons (fVar 1) (fCons (fBin gMod (fVar 0) (fVar 1)) fNil)))) e s
def F__law_common : FS := (sSeq (sPar 0 1 (fCons (fCall gAbs (fCons (fVar 0) fNil)) (fCons (fCall gAbs (fCons (fVar 1) fNil)) fNil)))
    (sSeq (sFor (fItA gRng1 (fCons (fC (.int 400)) fNil)) (gSet 2) B1__law_common)
    (sRet (fVar 0))))
def g__law_common : List Dat → Sto → Res Dat := runF 2 3 F__law_common
def F__law_frac : FS := (sSeq (sIf (fB (fBin gLt (fVar 1) (fC (.int 0)))) (sPar 0 1 (fCons (fUn gNeg (fVar 0)) (fCons (fUn gNeg (fVar 1)) fNil))) sNext)
    (sSeq (sSet 2 (fCall g__law_common (fCons (fVar 0) (fCons (fVar 1) fNil))))
    (sRet (fTup (fCons (fBin gDiv (fVar 0) (fVar 2)) (fCons (fBin gDiv (fVar 1) (fVar 2)) fNil))))))
def g__law_frac : List Dat → Sto → Res Dat := runF 2 3 F__law_frac
def F__law_sign : FS := (sRet (fIf (fB (fBin gGt (fVar 0) (fC (.int 0)))) (fC (.int 1)) (fIf (fB (fBin gEq (fVar 0) (fC (.int 0)))) (fC (.int 0)) (fUn gNeg (fC (.int 1))))))
def g__law_sign : List Dat → Sto → Res Dat := runF 1 1 F__law_sign
def F__law_at : FS := (sRet (fCall g__law_sign (fCons (fBin gAdd (fBin gAdd (fBin gMul (fBin gMul (fBin gIx (fVar 0) (fC (.int 0))) (fVar 2)) (fVar 2)) (fBin gMul (fBin gMul (fBin gIx (fVar 0) (fC (.int 1))) (fVar 1)) (fVar 2))) (fBin gMul (fBin gMul (fBin gIx (fVar 0) (fC (.int 2))) (fVar 1)) (fVar 1))) fNil)))
def g__law_at : List Dat → Sto → Res Dat := runF 3 3 F__law_at
def B1__law_root_of : FS := fun e s => (sSeq (sSet 4 (fBin gDiv (fBin gAdd (fVar 1) (fVar 2)) (fC (.int 2))))
    (sIf (fB (fBin gLe (fBin gMul (fVar 4) (fVar 4)) (fVar 0))) (sSet 1 (fVar 4)) (sSet 2 (fVar 4)))) e s
def F__law_root_of : FS := (sSeq (sPar 1 2 (fCons (fC (.int 0)) (fCons (fBin gAdd (fVar 0) (fC (.int 1))) fNil)))
    (sSeq (sFor (fItA gRng1 (fCons (fC (.int 200)) fNil)) (gSet 3) B1__law_root_of)
    (sRet (fVar 1))))
def g__law_root_of : List Dat → Sto → Res Dat := runF 1 5 F__law_root_of
def E1__law_poly : FE := fun e s => (fBin gSub (fCall g__law_next (fCons (fVar 0) (fCons (fBin gAdd (fBin gMul (fC (.int 2)) (fVar 1)) (fC (.int 1))) fNil))) (fVar 1)) e s
def E2__law_poly : FE := fun e s => (fBin gDiv (fVar 11) (fVar 4)) e s
def F__law_poly : FS := (sSeq (sSet 2 (fCall g__law_next (fCons (fVar 0) (fCons (fC (.int 6)) fNil))))
    (sSeq (sOwnN 3 (fLcN (fItA gRng1 (fCons (fC (.int 3)) fNil)) (gSet 10) cYes E1__law_poly [10]))
    (sSeq (sIf (fB (fBin gEq (fVar 2) (fC (.int 0)))) (sSeq (sAsg (fTup (fCons (fBin gAdd (fC (.int 1)) (fCall g__law_next (fCons (fVar 0) (fCons (fC (.int 6)) fNil)))) (fCons (fBin gSub (fCall g__law_next (fCons (fVar 0) (fCons (fC (.int 9)) fNil))) (fC (.int 2))) (fCons (fBin gAdd (fC (.int 1)) (fCall g__law_next (fCons (fVar 0) (fCons (fC (.int 6)) fNil)))) (fCons (fBin gSub (fCall g__law_next (fCons (fVar 0) (fCons (fC (.int 9)) fNil))) (fC (.int 2))) fNil))))) (gTupT 4 (gsCons (gSet 5) (gsCons (gSet 6) (gsCons (gSet 7) (gsCons (gSet 8) gsNil))))))
    (sOwn 3 (fCons (fBin gMul (fVar 6) (fVar 8)) (fCons (fBin gSub (fBin gMul (fUn gNeg (fVar 6)) (fVar 7)) (fBin gMul (fVar 5) (fVar 8))) (fCons (fBin gMul (fVar 5) (fVar 7)) fNil))))) sNext)
    (sSeq (sIf (fB (fBin gEq (fVar 2) (fC (.int 1)))) (sItemOwn 3 (fC (.int 2)) (fC (.int 0))) sNext)
    (sSeq (sIf (fB (fBin gEq (fVar 2) (fC (.int 2)))) (sSeq (sPar 7 9 (fCons (fBin gAdd (fC (.int 1)) (fCall g__law_next (fCons (fVar 0) (fCons (fC (.int 9)) fNil)))) (fCons (fBin gAdd (fC (.int 2)) (fCall g__law_next (fCons (fVar 0) (fCons (fC (.int 7)) fNil)))) fNil)))
    (sOwn 3 (fCons (fBin gSub (fCall g__law_next (fCons (fVar 0) (fCons (fC (.int 4)) fNil))) (fC (.int 1))) (fCons (fUn gNeg (fVar 9)) (fCons (fBin gMul (fVar 7) (fVar 9)) fNil))))) sNext)
    (sSeq (sSet 4 (fCall gMax (fCons (fLst (fCons (fC (.int 1)) (fCons (fCall g__law_common (fCons (fCall g__law_common (fCons (fIxOwn 3 (fC (.int 0))) (fCons (fIxOwn 3 (fC (.int 1))) fNil))) (fCons (fIxOwn 3 (fC (.int 2))) fNil))) fNil))) fNil)))
    (sFreeze 3 (sRet (fCall gTupOf (fCons (fLc (fIter (fVar 3)) (gSet 11) cYes E2__law_poly [11]) fNil))))))))))
def g__law_poly : List Dat → Sto → Res Dat := runF 2 12 F__law_poly
def F__law_roots : FS := (sSeq (sAsg (fVar 0) (gTupT 3 (gsCons (gSet 1) (gsCons (gSet 2) (gsCons (gSet 3) gsNil)))))
    (sSeq (sIf (fB (fBin gEq (fVar 3) (fC (.int 0)))) (sRet (fIf (fB (fBin gEq (fVar 2) (fC (.int 0)))) (fLst fNil) (fLst (fCons (fCall g__law_frac (fCons (fUn gNeg (fVar 1)) (fCons (fVar 2) fNil))) fNil)))) sNext)
    (sSeq (sSet 4 (fBin gSub (fBin gMul (fVar 2) (fVar 2)) (fBin gMul (fBin gMul (fC (.int 4)) (fVar 1)) (fVar 3))))
    (sSeq (sIf (fB (fBin gLt (fVar 4) (fC (.int 0)))) (sRet (fLst fNil)) sNext)
    (sSeq (sSet 5 (fCall g__law_root_of (fCons (fVar 4) fNil)))
    (sSeq (sIf (fB (fBin gEq (fBin gMul (fVar 5) (fVar 5)) (fVar 4))) (sSeq (sAsg (fIf (fB (fBin gGt (fVar 3) (fC (.int 0)))) (fTup (fCons (fBin gSub (fUn gNeg (fVar 2)) (fVar 5)) (fCons (fBin gAdd (fUn gNeg (fVar 2)) (fVar 5)) fNil))) (fTup (fCons (fBin gAdd (fUn gNeg (fVar 2)) (fVar 5)) (fCons (fBin gSub (fUn gNeg (fVar 2)) (fVar 5)) fNil)))) (gTupT 2 (gsCons (gSet 7) (gsCons (gSet 8) gsNil))))
    (sSeq (sSet 9 (fLst (fCons (fCall g__law_frac (fCons (fVar 7) (fCons (fBin gMul (fC (.int 2)) (fVar 3)) fNil))) (fCons (fCall g__law_frac (fCons (fVar 8) (fCons (fBin gMul (fC (.int 2)) (fVar 3)) fNil))) fNil))))
    (sRet (fIf (fB (fBin gEq (fVar 4) (fC (.int 0)))) (fSl (fVar 9) fNo (fSome (fC (.int 1)))) (fVar 9))))) sNext)
    (sSeq (sSet 6 (fIf (fB (fBin gGt (fVar 3) (fC (.int 0)))) (fVar 0) (fTup (fCons (fUn gNeg (fVar 1)) (fCons (fUn gNeg (fVar 2)) (fCons (fUn gNeg (fVar 3)) fNil))))))
    (sRet (fLst (fCons (fTup (fCons (fC (.str "root")) (fCons (fVar 6) (fCons (fC (.int 0)) fNil)))) (fCons (fTup (fCons (fC (.str "root")) (fCons (fVar 6) (fCons (fC (.int 1)) fNil)))) fNil)))))))))))
def g__law_roots : List Dat → Sto → Res Dat := runF 1 10 F__law_roots
def B1__law_span : FS := fun e s => (sSeq (sSet 8 (fBin gDiv (fBin gAdd (fVar 5) (fVar 6)) (fC (.int 2))))
    (sSeq (sSet 9 (fBin gGt (fBin gAdd (fBin gMul (fBin gMul (fC (.int 2)) (fBin gIx (fVar 2) (fC (.int 2)))) (fVar 8)) (fBin gMul (fBin gIx (fVar 2) (fC (.int 1))) (fBin gShl (fC (.int 1)) (fC (.int 90))))) (fC (.int 0))))
    (sSeq (sSet 10 (fBin gLt (fCall g__law_at (fCons (fVar 2) (fCons (fVar 8) (fCons (fBin gShl (fC (.int 1)) (fC (.int 90))) fNil)))) (fC (.int 0))))
    (sIf (fOr (fAnd (fB (fBin gEq (fVar 3) (fC (.int 0)))) (fOr (fB (fVar 9)) (fB (fVar 10)))) (fAnd (fB (fBin gEq (fVar 3) (fC (.int 1)))) (fAnd (fB (fVar 9)) (fNot (fB (fVar 10)))))) (sSet 6 (fVar 8)) (sSet 5 (fVar 8)))))) e s
def F__law_span : FS := (sSeq (sIf (fB (fBin gNe (fBin gIx (fVar 0) (fC (.int 0))) (fC (.str "root")))) (sSeq (sSet 5 (fBin gDiv (fBin gMul (fBin gIx (fVar 0) (fC (.int 0))) (fBin gShl (fC (.int 1)) (fC (.int 90)))) (fBin gIx (fVar 0) (fC (.int 1)))))
    (sRet (fTup (fCons (fVar 5) (fCons (fBin gAdd (fVar 5) (fC (.int 1))) fNil))))) sNext)
    (sSeq (sAsg (fVar 0) (gTupT 3 (gsCons (gSet 1) (gsCons (gSet 2) (gsCons (gSet 3) gsNil)))))
    (sSeq (sSet 4 (fBin gMul (fBin gAdd (fBin gAdd (fCall gAbs (fCons (fBin gIx (fVar 2) (fC (.int 0))) fNil)) (fCall gAbs (fCons (fBin gIx (fVar 2) (fC (.int 1))) fNil))) (fC (.int 1))) (fBin gShl (fC (.int 1)) (fC (.int 90)))))
    (sSeq (sPar 5 6 (fCons (fUn gNeg (fVar 4)) (fCons (fVar 4) fNil)))
    (sSeq (sFor (fItA gRng1 (fCons (fC (.int 130)) fNil)) (gSet 7) B1__law_span)
    (sRet (fTup (fCons (fVar 5) (fCons (fVar 6) fNil)))))))))
def g__law_span : List Dat → Sto → Res Dat := runF 1 11 F__law_span
def F__law_order : FS := (sSeq (sIf (fB (fBin gEq (fVar 0) (fVar 1))) (sRet (fC (.int 0))) sNext)
    (sSeq (sIf (fAnd (fB (fBin gNe (fBin gIx (fVar 0) (fC (.int 0))) (fC (.str "root")))) (fB (fBin gNe (fBin gIx (fVar 1) (fC (.int 0))) (fC (.str "root"))))) (sRet (fCall g__law_sign (fCons (fBin gSub (fBin gMul (fBin gIx (fVar 0) (fC (.int 0))) (fBin gIx (fVar 1) (fC (.int 1)))) (fBin gMul (fBin gIx (fVar 1) (fC (.int 0))) (fBin gIx (fVar 0) (fC (.int 1))))) fNil))) sNext)
    (sSeq (sPar 2 3 (fCons (fCall g__law_span (fCons (fVar 0) fNil)) (fCons (fCall g__law_span (fCons (fVar 1) fNil)) fNil)))
    (sRet (fIf (fB (fBin gLt (fBin gAdd (fBin gIx (fVar 2) (fC (.int 0))) (fBin gIx (fVar 2) (fC (.int 1)))) (fBin gAdd (fBin gIx (fVar 3) (fC (.int 0))) (fBin gIx (fVar 3) (fC (.int 1)))))) (fUn gNeg (fC (.int 1))) (fC (.int 1)))))))
def g__law_order : List Dat → Sto → Res Dat := runF 2 4 F__law_order
def F__law_in : FS := (sRet (fAndV (fBin gLt (fCall g__law_order (fCons (fTup (fCons (fC (.int 0)) (fCons (fC (.int 1)) fNil))) (fCons (fVar 0) fNil))) (fC (.int 0))) (fBin gLt (fCall g__law_order (fCons (fVar 0) (fCons (fTup (fCons (fC (.int 1)) (fCons (fC (.int 1)) fNil))) fNil))) (fC (.int 0)))))
def g__law_in : List Dat → Sto → Res Dat := runF 1 1 F__law_in
def E1__law_places : FE := fun e s => (fVar 5) e s
def C1__law_places : FT := fun e s => (fB (fBin gLt (fCall g__law_order (fCons (fVar 5) (fCons (fVar 3) fNil))) (fC (.int 0)))) e s
def B2__law_places : FS := fun e s => (sIf (fAnd (fB (fCall g__law_in (fCons (fVar 3) fNil))) (fB (fBin gNotIn (fVar 3) (fVar 1)))) (sSeq (sSet 4 (fCall gLen (fCons (fLc (fIter (fVar 1)) (gSet 5) C1__law_places E1__law_places [5]) fNil)))
    (sSet 1 (fBin gAdd (fBin gAdd (fSl (fVar 1) fNo (fSome (fVar 4))) (fLst (fCons (fVar 3) fNil))) (fSl (fVar 1) (fSome (fVar 4)) fNo)))) sNext) e s
def B3__law_places : FS := fun e s => (sFor (fIter (fCall g__law_roots (fCons (fVar 2) fNil))) (gSet 3) B2__law_places) e s
def F__law_places : FS := (sSeq (sSet 1 (fLst fNil))
    (sSeq (sFor (fIter (fVar 0)) (gSet 2) B3__law_places)
    (sRet (fVar 1))))
def g__law_places : List Dat → Sto → Res Dat := runF 1 6 F__law_places
def E1_law : FE := fun e s => (fCall g__law_poly (fCons (fVar 1) (fCons (fC (.int 12)) fNil))) e s
def E2_law : FE := fun e s => (fCall g__law_poly (fCons (fVar 1) (fCons (fC (.int 12)) fNil))) e s
def B3_law : FS := fun e s => (sSeq (sFreeze 4 (sOwnN 4 (nCat (fVar 4) (fLst (fCons (fTup (fCons (fC (.str "between")) (fCons (fVar 5) (fCons (fVar 6) fNil)))) (fCons (fTup (fCons (fC (.str "at")) (fCons (fVar 6) fNil))) fNil))))))
    (sSet 5 (fVar 6))) e s
def E4_law : FE := fun e s => (fVar 11) e s
def C4_law : FT := fun e s => (fAnd (fB (fBin gEq (fBin gIx (fVar 7) (fC (.int 0))) (fC (.str "between")))) (fAnd (fB (fBin gLt (fCall g__law_order (fCons (fBin gIx (fVar 7) (fC (.int 1))) (fCons (fVar 11) fNil))) (fC (.int 0)))) (fB (fBin gLt (fCall g__law_order (fCons (fVar 11) (fCons (fBin gIx (fVar 7) (fC (.int 2))) fNil))) (fC (.int 0)))))) e s
def B5_law : FS := fun e s => (sSeq (sSet 10 (fLc (fIter (fCall g__law_roots (fCons (fVar 8) fNil))) (gSet 11) C4_law E4_law [11]))
    (sIf (fB (fBin gNe (fCall g_is_still (fCons (fVar 8) (fCons (fVar 7) fNil))) (fBin gEq (fVar 10) (fLst fNil)))) (sRet (fC (.bool false))) sNext)) e s
def B6_law : FS := fun e s => (sSeq (sSet 6 (fCall g_sample (fCons (fVar 7) fNil)))
    (sSeq (sIf (fOr (fNot (fB (fCall g_is_place (fCons (fVar 6) fNil)))) (fNot (fB (fCall g__law_in (fCons (fVar 6) fNil))))) (sRet (fC (.bool false))) sNext)
    (sSeq (sIf (fAnd (fB (fBin gEq (fBin gIx (fVar 7) (fC (.int 0))) (fC (.str "at")))) (fB (fBin gNe (fCall g__law_order (fCons (fVar 6) (fCons (fBin gIx (fVar 7) (fC (.int 1))) fNil))) (fC (.int 0))))) (sRet (fC (.bool false))) sNext)
    (sSeq (sIf (fAnd (fB (fBin gEq (fBin gIx (fVar 7) (fC (.int 0))) (fC (.str "between")))) (fOr (fB (fBin gGe (fCall g__law_order (fCons (fBin gIx (fVar 7) (fC (.int 1))) (fCons (fVar 6) fNil))) (fC (.int 0)))) (fB (fBin gGe (fCall g__law_order (fCons (fVar 6) (fCons (fBin gIx (fVar 7) (fC (.int 2))) fNil))) (fC (.int 0)))))) (sRet (fC (.bool false))) sNext)
    (sFor (fIter (fBin gAdd (fVar 2) (fVar 3))) (gSet 8) B5_law))))) e s
def F_law : FS := (sSeq (sCell 1 (fCons (fSl (fVar 0) fNo (fSome (fC (.int 63)))) (fCons (fC (.int 0)) (fCons (fC (.int 0)) fNil))))
    (sSeq (sSet 2 (fLc (fItA gRng1 (fCons (fCall g__law_next (fCons (fVar 1) (fCons (fC (.int 6)) fNil))) fNil)) (gSet 9) cYes E1_law [9]))
    (sSeq (sSet 3 (fBin gAdd (fLc (fItA gRng1 (fCons (fC (.int 4)) fNil)) (gSet 9) cYes E2_law [9]) (fLst (fCons (fTup (fCons (fC (.int 0)) (fCons (fC (.int 0)) (fCons (fC (.int 0)) fNil)))) (fCons (fTup (fCons (fC (.int 1)) (fCons (fC (.int 0)) (fCons (fC (.int 0)) fNil)))) fNil)))))
    (sSeq (sParOwn 4 5 fNil (fTup (fCons (fC (.int 0)) (fCons (fC (.int 1)) fNil))))
    (sSeq (sFor (fIter (fCall g__law_places (fCons (fVar 2) fNil))) (gSet 6) B3_law)
    (sSeq (sAppend 4 (fTup (fCons (fC (.str "between")) (fCons (fVar 5) (fCons (fTup (fCons (fC (.int 1)) (fCons (fC (.int 1)) fNil))) fNil)))))
    (sSeq (sFreeze 4 (sIf (fB (fBin gNe (fCall gLstOf (fCons (fCall g_cells_of (fCons (fVar 2) fNil)) fNil)) (fVar 4))) (sRet (fC (.bool false))) sNext))
    (sSeq (sFreeze 4 (sFor (fIter (fVar 4)) (gSet 7) B6_law))
    (sRet (fC (.bool true)))))))))))
def g_law : List Dat → Sto → Res Dat := runF 1 12 F_law
end
end LW

namespace LW
open PySem DL L2
/-! ### numbers -/
theorem gcd_step (a b : Int) : Int.gcd b (a % b) = Int.gcd a b := by
  have h : a % b = a - b * (a / b) := by have := Int.mul_ediv_add_emod a b; omega
  rw [h, Int.gcd_sub_mul_left_right, Int.gcd_comm]
theorem gcd_abs (a b : Int) : Int.gcd (if a < 0 then -a else a) (if b < 0 then -b else b) = Int.gcd a b := by
  split <;> split <;> simp
theorem abs_nn (a : Int) : 0 ≤ (if a < 0 then -a else a) := by split <;> omega
theorem log_small {i : Int} (h : -(2 ^ 64 : Int) < i) (h2 : i < 2 ^ 64) : i.natAbs.log2 < 64 := by
  by_cases z : i.natAbs = 0
  · rw [z]; decide
  · exact (Nat.log2_lt z).mpr (by omega)
theorem mul_ok {i j : Int} (h : -(2 ^ 64 : Int) < i) (h2 : i < 2 ^ 64) (h3 : -(2 ^ 64 : Int) < j) (h4 : j < 2 ^ 64) : cMul i j = true := by
  have a := log_small h h2
  have b := log_small h3 h4
  exact decide_eq_true (by omega)
theorem div_ok {i j : Int} (h : 0 < j) (h4 : j < 2 ^ 64) : cDiv i j = true := by
  have b := log_small (i := j) (by omega) h4
  unfold cDiv
  rw [decide_eq_true h, decide_eq_true (by omega)]; rfl
theorem mod_ok {i j : Int} (h : 0 < j) : cMod i j = true := decide_eq_true h
theorem common_loop : ∀ (n : Nat) (a b : Int) (s : Sto), 0 ≤ a → 0 ≤ b → b.toNat ≤ n →
    sWhile C1_common B1_common [.fz (.int a), .fz (.int b)] s = .nx [.fz (.int (Int.gcd a b)), .fz (.int 0)] s := by
  intro n
  induction n with
  | zero =>
    intro a b s ha hb hn
    have : b = 0 := by omega
    subst this
    rw [while_step]
    simp [C1_common]
    omega
  | succ n ih =>
    intro a b s ha hb hn
    rw [while_step]
    by_cases h0 : b = 0
    · subst h0
      simp [C1_common]
      omega
    · have hp : 0 < b := by omega
      simp [C1_common, B1_common, mod_ok, hp]
      rw [ih b (a % b) s hb (Int.emod_nonneg _ h0) (by have := Int.emod_lt_of_pos a hp; omega), gcd_step]
theorem common_ok (a b : Int) (s : Sto) : g_common [.int a, .int b] s = .ok (.int (Int.gcd a b)) s := by
  unfold g_common F_common
  simp
  rw [common_loop _ _ _ s (abs_nn a) (abs_nn b) (Nat.le_refl _)]
  simp [gcd_abs]
/-- the law's own, by at most 400 turns -/
theorem lcommon_loop : ∀ (m : Nat) (ks : List Dat) (a b : Int) (k0 : Slt) (s : Sto), 0 ≤ a → 0 ≤ b → b < 2 ^ m → 2 * m + 1 ≤ ks.length →
    forL (gSet 2) B1__law_common ks [.fz (.int a), .fz (.int b), k0] s = .rt (.int (Int.gcd a b)) s := by
  have zero : ∀ (ks : List Dat) (a : Int) (k0 : Slt) (s : Sto), 0 ≤ a → 1 ≤ ks.length →
      forL (gSet 2) B1__law_common ks [.fz (.int a), .fz (.int 0), k0] s = .rt (.int (Int.gcd a 0)) s := by
    intro ks a k0 s ha hk
    cases ks with
    | nil => simp at hk
    | cons d ks =>
      simp [B1__law_common, gEq]
      omega
  have one : ∀ (d : Dat) (ks : List Dat) (a b : Int) (k0 : Slt) (s : Sto), 0 < b →
      forL (gSet 2) B1__law_common (d :: ks) [.fz (.int a), .fz (.int b), k0] s =
      forL (gSet 2) B1__law_common ks [.fz (.int b), .fz (.int (a % b)), .fz d] s := by
    intro d ks a b k0 s hb
    have h0 : ¬ b = 0 := by omega
    simp [B1__law_common, gEq, h0, mod_ok, hb]
  intro m
  induction m with
  | zero =>
    intro ks a b k0 s ha hb hm hk
    have : b = 0 := by simp at hm; omega
    subst this
    exact zero ks a k0 s ha (by omega)
  | succ m ih =>
    intro ks a b k0 s ha hb hm hk
    by_cases h0 : b = 0
    · subst h0; exact zero ks a k0 s ha (by omega)
    · have hp : 0 < b := by omega
      match ks, hk with
      | d :: e :: ks, hk =>
        rw [one d _ a b k0 s hp]
        have r0 := Int.emod_nonneg a h0
        have r1 := Int.emod_lt_of_pos a hp
        by_cases hr : a % b = 0
        · rw [hr, zero _ b _ s hb (by simp), ← hr, gcd_step]
        · have hrp : 0 < a % b := by omega
          rw [one e ks b (a % b) _ s hrp]
          have q0 := Int.emod_nonneg b hr
          have q1 := Int.emod_lt_of_pos b hrp
          have q2 : 2 * (b % (a % b)) < b := by
            have e1 := Int.mul_ediv_add_emod b (a % b)
            have e2 : 1 ≤ b / (a % b) := (Int.le_ediv_iff_mul_le hrp).mpr (by omega)
            have e3 : (a % b) * 1 ≤ (a % b) * (b / (a % b)) := Int.mul_le_mul_of_nonneg_left e2 (by omega)
            omega
          rw [ih ks (a % b) (b % (a % b)) _ s r0 q0 (by rw [Int.pow_succ] at hm; omega) (by simp at hk; omega), gcd_step, gcd_step]

theorem ups_length (lo : Int) (n : Nat) : (ups lo n).length = n := ups_len lo n
theorem lcommon_ok (a b : Int) (s : Sto) (hb : -(2 ^ 128 : Int) < b) (hb2 : b < 2 ^ 128) : g__law_common [.int a, .int b] s = .ok (.int (Int.gcd a b)) s := by
  unfold g__law_common F__law_common
  have c : cRng 400 = true := by decide
  simp [c]
  rw [lcommon_loop 128 _ _ _ _ s (abs_nn a) (abs_nn b) (by split <;> omega) (by rw [ups_length]; decide)]
  simp [gcd_abs]
theorem gcd_pos_r (a : Int) {b : Int} (h : 0 < b) : (0 : Int) < Int.gcd a b := by
  have := Int.gcd_pos_of_ne_zero_right a (b := b) (by omega)
  omega
theorem gcd_le_r (a : Int) {b : Int} (h : 0 < b) : (Int.gcd a b : Int) ≤ b := Int.gcd_le_right a h
/-- n / d in its least form, d above 0 -/
def fnum (n d : Int) : Int := n / Int.gcd n d
def fden (n d : Int) : Int := d / Int.gcd n d
theorem lfrac_ok (n d : Int) (s : Sto) (hd : 0 < d) (hd2 : d < 2 ^ 60) : g__law_frac [.int n, .int d] s = .ok (.tuple [.int (fnum n d), .int (fden n d)]) s := by
  unfold g__law_frac F__law_frac
  have h0 : ¬ d < 0 := by omega
  have hg := gcd_pos_r n hd
  have hg2 := gcd_le_r n hd
  simp [h0, lcommon_ok n d s (by omega) (by omega), div_ok hg (by omega), fnum, fden]
theorem fden_pos (n : Int) {d : Int} (hd : 0 < d) : 0 < fden n d := by
  have hg := gcd_pos_r n hd
  have hg2 := gcd_le_r n hd
  have : 1 ≤ fden n d := (Int.le_ediv_iff_mul_le hg).mpr (by omega)
  omega
theorem fden_le (n : Int) {d : Int} (hd : 0 < d) : fden n d ≤ d := Int.ediv_le_self _ (by omega)
theorem fnum_abs (n : Int) {d : Int} (hd : 0 < d) {b : Int} (h1 : -b ≤ n) (h2 : n ≤ b) : -b ≤ fnum n d ∧ fnum n d ≤ b := by
  have hg := gcd_pos_r n hd
  have e : fnum n d * Int.gcd n d = n := Int.ediv_mul_cancel (Int.gcd_dvd_left n d)
  generalize fnum n d = q at e ⊢
  generalize (Int.gcd n d : Int) = g at e hg
  constructor
  · by_cases hq : 0 ≤ q
    · omega
    · have := Int.mul_le_mul_of_nonneg_left (a := 1) (b := g) (c := -q) (by omega) (by omega)
      rw [Int.neg_mul, Int.neg_mul] at this
      omega
  · by_cases hq : q ≤ 0
    · omega
    · have := Int.mul_le_mul_of_nonneg_left (a := 1) (b := g) (c := q) (by omega) (by omega)
      omega
theorem lsign_ok (n : Int) (s : Sto) : g__law_sign [.int n] s = .ok (.int (Int.sign n)) s := by
  unfold g__law_sign F__law_sign
  rcases Int.lt_trichotomy n 0 with h | h | h
  · have h1 : ¬ 0 < n := by omega
    have h2 : ¬ n = 0 := by omega
    simp [gEq, h1, h2, Int.sign_eq_neg_one_of_neg h]
  · subst h
    simp [gEq]
  · simp [h, Int.sign_eq_one_of_pos h]
/-! ### draws -/
/-- the cell of the draws -/
abbrev dst (cs : List Int) (k : Int) : Sto := [.ls [.list (cs.map PyData.int), .int 0, .int k]]
theorem at_get {ds : List Dat} {j : Nat} {d : Dat} (k : Int) (hk : k = j) (h : ds[j]? = some d) : L2.atI ds k = some d := by
  rw [hk]
  exact L2.atI_nat h
theorem cell_ok (cs : List Int) (k : Int) (s : Sto) (hk : 0 ≤ k) : ∃ v, g__law_cell_at [.list (cs.map PyData.int), .int k] s = .ok (.int v) s := by
  unfold g__law_cell_at F__law_cell_at
  by_cases h : k < cs.length
  · have hj : k.toNat < cs.length := by omega
    refine ⟨cs[k.toNat], ?_⟩
    have e : L2.atI (cs.map PyData.int) k = some (PyData.int cs[k.toNat]) := at_get (j := k.toNat) k (by omega) (by rw [List.getElem?_map, List.getElem?_eq_getElem hj]; rfl)
    simp [h, e]
  · exact ⟨0, by simp [h]⟩
def primesL : List Int := [1000003, 1000033, 1000037, 1000039, 1000081, 1000099, 1000117, 1000121, 1000133, 1000151, 1000159, 1000171, 1000183, 1000187, 1000193, 1000199]
theorem primes_at (m : Int) (h : 0 ≤ m) (h2 : m < 16) : ∃ p, L2.atI (primesL.map PyData.int) m = some (.int p) ∧ 0 < p ∧ p < 2000000 := by
  have hj : m.toNat < primesL.length := by
    show m.toNat < 16
    omega
  have all : ∀ p ∈ primesL, 0 < p ∧ p < 2000000 := by decide
  refine ⟨primesL[m.toNat], at_get (j := m.toNat) m (by omega) (by rw [List.getElem?_map, List.getElem?_eq_getElem hj]; rfl), all _ (List.getElem_mem hj)⟩
theorem draw_ok (c k b : Int) (s : Sto) (hc : -(2 ^ 60 : Int) < c) (hc2 : c < 2 ^ 60) (hk : -(2 ^ 60 : Int) < k) (hk2 : k < 2 ^ 60) (hb : 0 < b) : ∃ v, 0 ≤ v ∧ v < b ∧ g__law_draw [.int c, .int k, .int b] s = .ok (.int v) s := by
  obtain ⟨p, e, hp, hp2⟩ := primes_at (k % 16) (Int.emod_nonneg _ (by decide)) (Int.emod_lt_of_pos _ (by decide))
  have e' : L2.atI [PyData.int 1000003, PyData.int 1000033, PyData.int 1000037, PyData.int 1000039, PyData.int 1000081, PyData.int 1000099, PyData.int 1000117, PyData.int 1000121, PyData.int 1000133, PyData.int 1000151, PyData.int 1000159, PyData.int 1000171, PyData.int 1000183, PyData.int 1000187, PyData.int 1000193, PyData.int 1000199] (k % 16) = some (.int p) := e
  refine ⟨(c * 48271 + k * 69621) % p % b, Int.emod_nonneg _ (by omega), Int.emod_lt_of_pos _ hb, ?_⟩
  unfold g__law_draw F__law_draw
  simp [mul_ok (i := c) (j := 48271) (by omega) (by omega) (by decide) (by decide), mul_ok (i := k) (j := 69621) (by omega) (by omega) (by decide) (by decide), mod_ok, hp, hb, e']
theorem pow_loop : ∀ (ks : List Dat) (c k b p : Int) (n : Nat) (k0 u v : Slt) (s : Sto), 0 < p → p < 2 ^ (10 * n) → 10 * (n + ks.length) ≤ 250 →
    ∃ p' k1, 0 < p' ∧ p' < 2 ^ 250 ∧ forL (gSet 4) B1__law_number ks [.fz (.int c), .fz (.int k), .fz (.int b), .fz (.int p), k0, u, v] s = .nx [.fz (.int c), .fz (.int k), .fz (.int b), .fz (.int p'), k1, u, v] s := by
  intro ks
  induction ks with
  | nil =>
    intro c k b p n k0 u v s h1 h2 h3
    refine ⟨p, k0, h1, Int.lt_of_lt_of_le h2 ?_, by simp⟩
    have := Nat.pow_le_pow_right (n := 2) (by decide) (show 10 * n ≤ 250 by simpa using h3)
    exact_mod_cast this
  | cons d ks ih =>
    intro c k b p n k0 u v s h1 h2 h3
    have h3' : 10 * (n + 1 + ks.length) ≤ 250 := by simp at h3; omega
    have lg : p.natAbs.log2 < 250 := by
      have : p.natAbs < 2 ^ (10 * n) := by
        have h : (p.natAbs : Int) < ((2 ^ (10 * n) : Nat) : Int) := by push_cast; omega
        exact_mod_cast h
      have h2 : p.natAbs.log2 < 10 * n := (Nat.log2_lt (by omega)).mpr this
      omega
    have cm : cMul p 1009 = true := by
      have : (1009 : Int).natAbs.log2 = 9 := by decide
      exact decide_eq_true (by omega)
    have hp : p * 1009 < 2 ^ (10 * (n + 1)) := by
      have : (2 : Int) ^ (10 * (n + 1)) = 2 ^ (10 * n) * 1024 := by rw [show 10 * (n + 1) = 10 * n + 10 by omega, Int.pow_add]; rfl
      omega
    obtain ⟨p', k1, a1, a2, a3⟩ := ih c k b (p * 1009) (n + 1) (.fz d) u v s (by omega) hp h3'
    exact ⟨p', k1, a1, a2, by simp [B1__law_number, cm]; exact a3⟩
theorem number_ok (c k b : Int) (s : Sto) (hk : 0 ≤ k) (hk2 : k < 24) (hb : 0 < b) : ∃ v, 0 ≤ v ∧ v < b ∧ g__law_number [.int c, .int k, .int b] s = .ok (.int v) s := by
  have hm : k % 24 = k := Int.emod_eq_of_lt hk hk2
  have cr : cRng k = true := by unfold cRng; rw [decide_eq_true (by omega), decide_eq_true (by omega)]; rfl
  obtain ⟨p, k1, hp, hp2, e⟩ := pow_loop (ups 0 k.toNat) c k b 1 1 .un .un .un s (by decide) (by decide) (by rw [ups_length]; omega)
  have hd : cDiv (c - 1000000000000000000) p = true := by
    have : p.natAbs.log2 < 9000 := by
      have h : p.natAbs < 2 ^ 250 := by omega
      have := (Nat.log2_lt (k := 250) (by omega)).mpr h
      omega
    unfold cDiv
    rw [decide_eq_true hp, decide_eq_true this]; rfl
  have cp : cPow 10 18 = true := by decide
  have e10 : (10 : Int) ^ (18 : Int).toNat = 1000000000000000000 := by decide
  unfold g__law_number F__law_number
  by_cases hr : 0 < (c - 1000000000000000000) / p
  · refine ⟨(c - 1000000000000000000) / p % 1009 % b, Int.emod_nonneg _ (by omega), Int.emod_lt_of_pos _ hb, ?_⟩
    simp [mod_ok, hm, cr, e, cp, hd, hr, hb]
  · have g0 : 0 ≤ c % 1000003 := Int.emod_nonneg _ (by decide)
    have g1 : c % 1000003 < 1000003 := Int.emod_lt_of_pos _ (by decide)
    have k9 : 0 ≤ k % 9 := Int.emod_nonneg _ (by decide)
    have k9' : k % 9 < 9 := Int.emod_lt_of_pos _ (by decide)
    have hx : (c % 1000003 + 977 * k) * (c % 1000003 + 31 * k + 5) ≤ 2000000 * 2000000 := Int.mul_le_mul (by omega) (by omega) (by omega) (by omega)
    have hx0 : 0 ≤ (c % 1000003 + 977 * k) * (c % 1000003 + 31 * k + 5) := Int.mul_nonneg (by omega) (by omega)
    obtain ⟨v, h1, h2, h3⟩ := draw_ok ((c % 1000003 + 977 * k) * (c % 1000003 + 31 * k + 5)) (k % 9 + 1) 999983 s (by omega) (by omega) (by omega) (by omega) (by decide)
    refine ⟨v % b, Int.emod_nonneg _ (by omega), Int.emod_lt_of_pos _ hb, ?_⟩
    simp [mod_ok, hm, cr, e, cp, hd, hr, hb, h3, mul_ok (i := 977) (j := k) (by decide) (by decide) (by omega) (by omega), mul_ok (i := 31) (j := k) (by decide) (by decide) (by omega) (by omega),
      mul_ok (i := c % 1000003 + 977 * k) (j := c % 1000003 + 31 * k + 5) (by omega) (by omega) (by omega) (by omega)]
theorem next_ok (cs : List Int) (k b : Int) (hk : 0 ≤ k) (hk2 : k < 2 ^ 40) (hb : 0 < b) : ∃ v, 0 ≤ v ∧ v < b ∧ g__law_next [cel 0, .int b] (dst cs k) = .ok (.int v) (dst cs (k + 1)) := by
  have a0 : 0 ≤ (k + 1) / 12 := Int.ediv_nonneg (by omega) (by decide)
  have a1 : (k + 1) / 12 ≤ k + 1 := Int.ediv_le_self _ (by omega)
  obtain ⟨c, hc⟩ := cell_ok cs ((k + 1) / 12) (dst cs (k + 1)) a0
  have m0 : 0 ≤ (k + 1) % 12 := Int.emod_nonneg _ (by decide)
  have m1 : (k + 1) % 12 < 12 := Int.emod_lt_of_pos _ (by decide)
  obtain ⟨v, h1, h2, h3⟩ := number_ok (c + 31 * ((k + 1) / 12)) ((k + 1) % 12 + 1) b (dst cs (k + 1)) (by omega) (by omega) hb
  refine ⟨v, h1, h2, ?_⟩
  have i2 : ∀ (x y z : Dat), L2.atI [x, y, z] 2 = some z := fun _ _ _ => rfl
  have i1 : ∀ (x y z : Dat), L2.atI [x, y, z] 1 = some y := fun _ _ _ => rfl
  have i0 : ∀ (x y z : Dat), L2.atI [x, y, z] 0 = some x := fun _ _ _ => rfl
  have x2 : L2.ixN 3 2 = some 2 := rfl
  unfold g__law_next F__law_next
  unfold dst at hc h3 ⊢
  simp [cel, i2, i1, i0, x2, div_ok, mod_ok, hc, h3, mul_ok (i := 31) (j := (k + 1) / 12) (by decide) (by decide) (by omega) (by omega)]
end LW

namespace LW
/-! ### signs at roots that are no fractions: whole numbers alone -/
abbrev NN : Int := 1237940039285380274899124224
theorem mul_split {x y R K c : Int} (hk : K ≤ x * y) (hs : 0 < x + y) (hK : 0 < K) (hR : y ≤ R) (hc : c * R < K) (c0 : 0 ≤ c) : c < x := by
  have hx : 0 < x := by
    by_cases h : 0 < x
    · exact h
    · exfalso
      have hy : 0 < y := by omega
      have : x * y ≤ 0 * y := Int.mul_le_mul_of_nonneg_right (by omega) (by omega)
      omega
  have hy : 0 < y := by
    by_cases h : 0 < y
    · exact h
    · exfalso
      have : x * y ≤ x * 0 := Int.mul_le_mul_of_nonneg_left (by omega) (by omega)
      omega
  by_cases h : c < x
  · exact h
  · exfalso
    have h1 : x * y ≤ c * y := Int.mul_le_mul_of_nonneg_right (by omega) (by omega)
    have h2 : c * y ≤ c * R := Int.mul_le_mul_of_nonneg_left hR c0
    omega
theorem sq_lt {x y : Int} (hy : 0 ≤ y) (h : x * x < y * y) : x < y := by
  by_cases q : x < y
  · exact q
  · exfalso
    have : y * y ≤ x * x := Int.mul_le_mul (by omega) (by omega) hy (by omega)
    omega
theorem sq_le {x y : Int} (hy : 0 ≤ y) (h : x * x ≤ y * y) : x ≤ y := by
  by_cases q : x ≤ y
  · exact q
  · exfalso
    have h1 : (y + 1) * (y + 1) ≤ x * x := Int.mul_le_mul (by omega) (by omega) (by omega) (by omega)
    have : (y + 1) * (y + 1) = y * y + 2 * y + 1 := by grind
    omega
theorem abs_mul_le {x y a b : Int} (h1 : -a ≤ x) (h2 : x ≤ a) (h3 : -b ≤ y) (h4 : y ≤ b) : -(a * b) ≤ x * y ∧ x * y ≤ a * b := by
  have m1 : (a + x) * (b + y) ≥ 0 := Int.mul_nonneg (by omega) (by omega)
  have m2 : (a - x) * (b - y) ≥ 0 := Int.mul_nonneg (by omega) (by omega)
  have m3 : (a + x) * (b - y) ≥ 0 := Int.mul_nonneg (by omega) (by omega)
  have m4 : (a - x) * (b + y) ≥ 0 := Int.mul_nonneg (by omega) (by omega)
  constructor <;> grind
structure Brk (D k Y : Int) : Prop where
  d1 : 1 ≤ D
  d2 : D < 2 ^ 20
  a1 : 0 < k
  a2 : k < 2 ^ 10
  lo : Y - k ≤ 0 ∨ (Y - k) * (Y - k) < D * (NN * NN)
  hi : 0 < Y + k
  hi2 : D * (NN * NN) ≤ (Y + k) * (Y + k)
theorem Brk.b {D k Y : Int} (b : Brk D k Y) : 2 ^ 90 - 2 ^ 10 ≤ Y ∧ Y ≤ 2 ^ 100 + 2 ^ 10 ∧ -(2 ^ 113 : Int) ≤ Y * Y - D * (NN * NN) ∧ Y * Y - D * (NN * NN) ≤ 2 ^ 113 := by
  obtain ⟨d1, d2, a1, a2', lo, hi, hi2⟩ := b
  have n0 : (0 : Int) < NN * NN := by decide
  have k1 : NN * NN ≤ D * (NN * NN) := by
    have := Int.mul_le_mul_of_nonneg_right d1 (show (0 : Int) ≤ NN * NN by decide)
    omega
  have h1 : NN ≤ Y + k := sq_le (by omega) (by omega)
  have y0 : 2 ^ 90 - 2 ^ 10 ≤ Y := by
    have : (NN : Int) = 2 ^ 90 := by decide
    omega
  have lo' : (Y - k) * (Y - k) < D * (NN * NN) := by
    rcases lo with h | h
    · omega
    · exact h
  have k2 : D * (NN * NN) ≤ 2 ^ 20 * (NN * NN) := Int.mul_le_mul_of_nonneg_right (by omega) (by decide)
  have e2 : (2 : Int) ^ 20 * (NN * NN) = (2 ^ 100) * (2 ^ 100) := by decide
  have h2 : Y - k < 2 ^ 100 := sq_lt (by decide) (by omega)
  have y1 : Y ≤ 2 ^ 100 + 2 ^ 10 := by omega
  have ex1 : (Y - k) * (Y - k) = Y * Y - 2 * (k * Y) + k * k := by grind
  have ex2 : (Y + k) * (Y + k) = Y * Y + 2 * (k * Y) + k * k := by grind
  obtain ⟨_, b1⟩ := abs_mul_le (x := k) (y := Y) (a := 2 ^ 10) (b := 2 ^ 101) (by omega) (by omega) (by omega) (by omega)
  obtain ⟨_, b2⟩ := abs_mul_le (x := k) (y := k) (a := 2 ^ 10) (b := 2 ^ 10) (by omega) (by omega) (by omega) (by omega)
  have b3 : 0 ≤ k * k := Int.mul_nonneg (by omega) (by omega)
  refine ⟨y0, y1, ?_, ?_⟩
  · rw [ex2] at hi2; omega
  · rw [ex1] at lo'; omega
structure Sml (A V p2 : Int) : Prop where
  a1 : -(2 ^ 25) ≤ A
  a2 : A ≤ 2 ^ 25
  v1 : -(2 ^ 20) ≤ V
  v2 : V ≤ 2 ^ 20
  p1 : -(2 ^ 10) ≤ p2
  p2 : p2 ≤ 2 ^ 10
theorem Sml.neg {A V p2 : Int} (h : Sml A V p2) : Sml (-A) (-V) (-p2) := by
  obtain ⟨a, b, c, d, e, f⟩ := h
  exact ⟨by omega, by omega, by omega, by omega, by omega, by omega⟩
def bigP (A V D p2 Y : Int) : Int := 4 * (NN * (NN * A + V * Y)) + 2 * (p2 * (Y * Y - D * (NN * NN)))
theorem bigP_neg (A V D p2 Y : Int) : bigP (-A) (-V) D (-p2) Y = -bigP A V D p2 Y := by unfold bigP; grind
/-- the linear part decides -/
theorem bigP_pos {A V D p2 Y k : Int} (b : Brk D k Y) (m : Sml A V p2) (h : 2 ^ 57 < NN * A + V * Y) : 0 < bigP A V D p2 Y := by
  obtain ⟨y0, y1, q1, q2⟩ := b.b
  obtain ⟨c1, c2⟩ := abs_mul_le (x := p2) (y := Y * Y - D * (NN * NN)) (a := 2 ^ 10) (b := 2 ^ 113) (by have := m.p1; omega) m.p2 (by omega) (by omega)
  have h1 : NN * (2 ^ 57) ≤ NN * (NN * A + V * Y) := Int.mul_le_mul_of_nonneg_left (by omega) (by decide)
  have e1 : NN * (2 : Int) ^ 57 = 2 ^ 147 := by decide
  unfold bigP
  omega
theorem lin_bd {A V D p2 Y k : Int} (b : Brk D k Y) (m : Sml A V p2) : -(2 ^ 116 : Int) ≤ NN * A ∧ NN * A ≤ 2 ^ 116 ∧ -(2 ^ 121 : Int) ≤ V * Y ∧ V * Y ≤ 2 ^ 121 ∧ -(2 ^ 153 : Int) ≤ V * V * (Y * Y - D * (NN * NN)) ∧ V * V * (Y * Y - D * (NN * NN)) ≤ 2 ^ 153 := by
  obtain ⟨y0, y1, q1, q2⟩ := b.b
  obtain ⟨c1, c2⟩ := abs_mul_le (x := NN) (y := A) (a := 2 ^ 91) (b := 2 ^ 25) (by decide) (by decide) m.a1 m.a2
  obtain ⟨c3, c4⟩ := abs_mul_le (x := V) (y := Y) (a := 2 ^ 20) (b := 2 ^ 101) m.v1 m.v2 (by omega) (by omega)
  obtain ⟨c5, c6⟩ := abs_mul_le (x := V) (y := V) (a := 2 ^ 20) (b := 2 ^ 20) m.v1 m.v2 m.v1 m.v2
  obtain ⟨c7, c8⟩ := abs_mul_le (x := V * V) (y := Y * Y - D * (NN * NN)) (a := 2 ^ 40) (b := 2 ^ 113) (by omega) (by omega) q1 q2
  refine ⟨by omega, by omega, by omega, by omega, by omega, by omega⟩
theorem case_in {A V D p2 Y k : Int} (b : Brk D k Y) (m : Sml A V p2) (hE : A * A - V * V * D ≤ -1) (hV : 0 < V) : 0 < bigP A V D p2 Y := by
  refine bigP_pos b m ?_
  obtain ⟨y0, y1, q1, q2⟩ := b.b
  obtain ⟨z1, z2, z3, z4, z5, z6⟩ := lin_bd (p2 := p2) b m
  have hp : 0 < V * Y := Int.mul_pos hV (by omega)
  have id1 : (NN * A + V * Y) * (V * Y - NN * A) = (NN * NN) * (V * V * D - A * A) + V * V * (Y * Y - D * (NN * NN)) := by grind
  have h1 : (NN * NN) * 1 ≤ (NN * NN) * (V * V * D - A * A) := Int.mul_le_mul_of_nonneg_left (by omega) (by decide)
  have e1 : (NN : Int) * NN = 2 ^ 180 := by decide
  refine mul_split (x := NN * A + V * Y) (y := V * Y - NN * A) (R := 2 ^ 122) (K := 2 ^ 179 + 1) (c := 2 ^ 57) (by omega) (by omega) (by decide) (by omega) (by decide) (by decide)
theorem case_out {A V D p2 Y k : Int} (b : Brk D k Y) (m : Sml A V p2) (hE : 1 ≤ A * A - V * V * D) (hA : 0 < A) : 0 < bigP A V D p2 Y := by
  refine bigP_pos b m ?_
  obtain ⟨y0, y1, q1, q2⟩ := b.b
  obtain ⟨z1, z2, z3, z4, z5, z6⟩ := lin_bd (p2 := p2) b m
  have hp : 0 < NN * A := Int.mul_pos (by decide) hA
  have id1 : (NN * A + V * Y) * (NN * A - V * Y) = (NN * NN) * (A * A - V * V * D) - V * V * (Y * Y - D * (NN * NN)) := by grind
  have h1 : (NN * NN) * 1 ≤ (NN * NN) * (A * A - V * V * D) := Int.mul_le_mul_of_nonneg_left (by omega) (by decide)
  have e1 : (NN : Int) * NN = 2 ^ 180 := by decide
  refine mul_split (x := NN * A + V * Y) (y := NN * A - V * Y) (R := 2 ^ 122) (K := 2 ^ 179 + 1) (c := 2 ^ 57) (by omega) (by omega) (by decide) (by omega) (by decide) (by decide)
/-- the sign at the middle of the span is the sign at the root -/
theorem bigP_sign {A V D p2 Y k : Int} (b : Brk D k Y) (m : Sml A V p2) (hE : A * A - V * V * D ≠ 0) : Int.sign (bigP A V D p2 Y) = if A * A - V * V * D < 0 then Int.sign V else Int.sign A := by
  have pos : ∀ {x y : Int}, 0 < x → 0 < y → Int.sign x = Int.sign y := fun h1 h2 => by rw [Int.sign_eq_one_of_pos h1, Int.sign_eq_one_of_pos h2]
  have neg : ∀ {x y : Int}, x < 0 → y < 0 → Int.sign x = Int.sign y := fun h1 h2 => by rw [Int.sign_eq_neg_one_of_neg h1, Int.sign_eq_neg_one_of_neg h2]
  have en : (-A) * (-A) - (-V) * (-V) * D = A * A - V * V * D := by grind
  by_cases h : A * A - V * V * D < 0
  · rw [if_pos h]
    have hV : V ≠ 0 := fun z => by
      subst z
      have : 0 ≤ A * A := by
        rcases Int.le_total 0 A with q | q
        · exact Int.mul_nonneg q q
        · have := Int.mul_nonneg (show 0 ≤ -A by omega) (show 0 ≤ -A by omega)
          rw [Int.neg_mul_neg] at this; exact this
      rw [Int.zero_mul, Int.zero_mul] at h
      omega
    rcases Int.lt_or_gt_of_ne hV with q | q
    · have := case_in b m.neg (by rw [en]; omega) (by omega)
      rw [bigP_neg] at this
      exact neg (by omega) q
    · exact pos (case_in b m (by omega) q) q
  · rw [if_neg h]
    have hA : A ≠ 0 := fun z => by
      subst z
      have h1 : 0 ≤ V * V * D := by
        have : 0 ≤ V * V := by
          rcases Int.le_total 0 V with q | q
          · exact Int.mul_nonneg q q
          · have := Int.mul_nonneg (show 0 ≤ -V by omega) (show 0 ≤ -V by omega)
            rw [Int.neg_mul_neg] at this; exact this
        exact Int.mul_nonneg this (by have := b.d1; omega)
      rw [Int.zero_mul] at h hE
      omega
    rcases Int.lt_or_gt_of_ne hA with q | q
    · have := case_out b m.neg (by rw [en]; omega) (by omega)
      rw [bigP_neg] at this
      exact neg (by omega) q
    · exact pos (case_out b m (by omega) q) q
/-- D no square: no fraction -/
theorem no_sq {A V D : Int} (hD : ∀ x : Int, x * x ≠ D) (h : A ≠ 0 ∨ V ≠ 0) : A * A - V * V * D ≠ 0 := fun z => by
  have e : A * A = V * V * D := by omega
  by_cases hV : V = 0
  · subst hV
    rw [Int.zero_mul, Int.zero_mul] at e
    rcases h with h | h
    · rcases Int.mul_eq_zero.mp e with q | q <;> exact h q
    · exact h rfl
  · have dv : V ^ 2 ∣ A ^ 2 := ⟨D, by rw [Int.pow_succ, Int.pow_succ, Int.pow_succ, Int.pow_succ, Int.pow_zero, Int.one_mul, Int.pow_zero, Int.one_mul]; exact e⟩
    obtain ⟨c, hc⟩ := (Int.pow_dvd_pow_iff (by decide)).mp dv
    subst hc
    have e2 : V * V * (c * c) = V * V * D := by grind
    exact hD c (Int.eq_of_mul_eq_mul_left (by simp [hV]) e2)
end LW

namespace LW
open PySem DL L2
/-! ### fractions, any sign below -/
theorem log_wide {i : Int} (h : -(2 ^ 256 : Int) < i) (h2 : i < 2 ^ 256) : i.natAbs.log2 < 256 := by
  by_cases z : i.natAbs = 0
  · rw [z]; decide
  · exact (Nat.log2_lt z).mpr (by omega)
theorem mul_okW {i j : Int} (h : -(2 ^ 256 : Int) < i) (h2 : i < 2 ^ 256) (h3 : -(2 ^ 256 : Int) < j) (h4 : j < 2 ^ 256) : cMul i j = true := by
  have a := log_wide h h2
  have b := log_wide h3 h4
  exact decide_eq_true (by omega)
theorem div_okW {i j : Int} (h : 0 < j) (h4 : j < 2 ^ 256) : cDiv i j = true := by
  have b := log_wide (i := j) (by omega) h4
  unfold cDiv
  rw [decide_eq_true h, decide_eq_true (by omega)]; rfl
def fn (n d : Int) : Int := (if d < 0 then -n else n) / Int.gcd n d
def fd (n d : Int) : Int := (if d < 0 then -d else d) / Int.gcd n d
structure FrIs (n d p q : Int) : Prop where
  pos : 0 < q
  eq : p * d = n * q
  p1 : -(n.natAbs : Int) ≤ p
  p2 : p ≤ n.natAbs
  q2 : q ≤ d.natAbs
theorem gcd_pos {n d : Int} (hd : d ≠ 0) : (0 : Int) < Int.gcd n d := by
  have := Int.gcd_pos_of_ne_zero_right n hd
  omega
theorem fr_is (n : Int) {d : Int} (hd : d ≠ 0) : FrIs n d (fn n d) (fd n d) := by
  have hg := gcd_pos (n := n) hd
  have d1 : (Int.gcd n d : Int) ∣ (if d < 0 then -n else n) := by split <;> simp [Int.dvd_neg, Int.gcd_dvd_left]
  have d2 : (Int.gcd n d : Int) ∣ (if d < 0 then -d else d) := by split <;> simp [Int.dvd_neg, Int.gcd_dvd_right]
  have e1 : fn n d * Int.gcd n d = (if d < 0 then -n else n) := Int.ediv_mul_cancel d1
  have e2 : fd n d * Int.gcd n d = (if d < 0 then -d else d) := Int.ediv_mul_cancel d2
  generalize fn n d = p at e1 ⊢
  generalize fd n d = q at e2 ⊢
  generalize (Int.gcd n d : Int) = g at *
  have pa : ∀ {x y : Int}, x * g = y → -(y.natAbs : Int) ≤ x ∧ x ≤ y.natAbs := fun {x y} h => by
    have : x.natAbs ≤ y.natAbs := by
      rw [← h, Int.natAbs_mul]
      exact Nat.le_mul_of_pos_right _ (by omega)
    omega
  obtain ⟨a1, a2⟩ := pa e1
  obtain ⟨b1, b2⟩ := pa e2
  have hq : 0 < q := by
    by_cases h : 0 < q
    · exact h
    · exfalso
      have : q * g ≤ 0 * g := Int.mul_le_mul_of_nonneg_right (by omega) (by omega)
      split at e2 <;> omega
  refine ⟨hq, ?_, ?_, ?_, ?_⟩
  · have h : p * d * g = n * q * g := by
      split at e1
      · rename_i h
        rw [if_pos h] at e2
        grind
      · rename_i h
        rw [if_neg h] at e2
        grind
    exact Int.eq_of_mul_eq_mul_right (by omega) h
  · split at a1 <;> omega
  · split at a2 <;> omega
  · split at b2 <;> omega
theorem frac_ok (n d : Int) (s : Sto) (hd : d ≠ 0) (h1 : -(2 ^ 120 : Int) < d) (h2 : d < 2 ^ 120) : g_frac [.int n, .int d] s = .ok (.tuple [.int (fn n d), .int (fd n d)]) s := by
  have hg := gcd_pos (n := n) hd
  have hg2 : (Int.gcd n d : Int) < 2 ^ 120 := by have := Int.gcd_le_natAbs_right n hd; omega
  have dv := div_okW (i := 0) hg (by omega)
  have dvA : ∀ i, cDiv i (Int.gcd n d) = true := fun i => div_okW hg (by omega)
  unfold g_frac F_frac fn fd
  by_cases h : d < 0
  · simp [h, common_ok, dvA]
  · simp [h, common_ok, dvA]
theorem lfrac2_ok (n d : Int) (s : Sto) (hd : d ≠ 0) (h1 : -(2 ^ 120 : Int) < d) (h2 : d < 2 ^ 120) : g__law_frac [.int n, .int d] s = .ok (.tuple [.int (fn n d), .int (fd n d)]) s := by
  have hg := gcd_pos (n := n) hd
  have hg2 : (Int.gcd n d : Int) < 2 ^ 120 := by have := Int.gcd_le_natAbs_right n hd; omega
  have dvA : ∀ i, cDiv i (Int.gcd n d) = true := fun i => div_okW hg (by omega)
  have c1 := lcommon_ok n d s (by omega) (by omega)
  have c2 := lcommon_ok (-n) (-d) s (by omega) (by omega)
  unfold g__law_frac F__law_frac fn fd
  by_cases h : d < 0
  · simp [h, c2, dvA]
  · simp [h, c1, dvA]
theorem sign_of_ok (n : Int) (s : Sto) : g_sign_of [.int n] s = .ok (.int (Int.sign n)) s := by
  unfold g_sign_of F_sign_of
  rcases Int.lt_trichotomy n 0 with h | h | h
  · have h1 : ¬ 0 < n := by omega
    have h2 : ¬ n = 0 := by omega
    simp [gEq, h1, h2, Int.sign_eq_neg_one_of_neg h]
  · subst h
    simp [gEq]
  · simp [h, gEq, Int.sign_eq_one_of_pos h]
/-- a bound by a power of two -/
structure Bd (k : Nat) (x : Int) : Prop where
  lo : -(2 ^ k : Int) < x
  hi : x < 2 ^ k
theorem Bd.mul {j k : Nat} {x y : Int} (h : Bd j x) (h' : Bd k y) : Bd (j + k) (x * y) := by
  have a : x.natAbs < 2 ^ j := by
    have := h.lo; have := h.hi
    have : (x.natAbs : Int) < ((2 ^ j : Nat) : Int) := by push_cast; omega
    exact_mod_cast this
  have b : y.natAbs < 2 ^ k := by
    have := h'.lo; have := h'.hi
    have : (y.natAbs : Int) < ((2 ^ k : Nat) : Int) := by push_cast; omega
    exact_mod_cast this
  have c : (x * y).natAbs < 2 ^ (j + k) := by
    rw [Int.natAbs_mul, Nat.pow_add]
    exact Nat.mul_lt_mul'' a b
  have d : ((x * y).natAbs : Int) < ((2 ^ (j + k) : Nat) : Int) := by exact_mod_cast c
  push_cast at d
  constructor <;> omega
theorem Bd.mono {j k : Nat} {x : Int} (h : Bd j x) (hk : j ≤ k) : Bd k x := by
  have : (2 : Int) ^ j ≤ 2 ^ k := by exact_mod_cast Nat.pow_le_pow_right (n := 2) (by decide) hk
  have := h.lo; have := h.hi
  constructor <;> omega
theorem Bd.ok {j k : Nat} {x y : Int} (h : Bd j x) (h' : Bd k y) (hj : j ≤ 256) (hk : k ≤ 256) : cMul x y = true := by
  have a := h.mono hj
  have b := h'.mono hk
  exact mul_okW a.lo a.hi b.lo b.hi
theorem Bd.neg {k : Nat} {x : Int} (h : Bd k x) : Bd k (-x) := ⟨by have := h.hi; omega, by have := h.lo; omega⟩
theorem Bd.add {k : Nat} {x y : Int} (h : Bd k x) (h' : Bd k y) : Bd (k + 1) (x + y) := by
  have e : (2 : Int) ^ (k + 1) = 2 ^ k * 2 := by rw [Int.pow_succ]
  have := h.lo; have := h.hi; have := h'.lo; have := h'.hi
  constructor <;> omega
theorem Bd.sub {k : Nat} {x y : Int} (h : Bd k x) (h' : Bd k y) : Bd (k + 1) (x - y) := by
  have e : (2 : Int) ^ (k + 1) = 2 ^ k * 2 := by rw [Int.pow_succ]
  have := h.lo; have := h.hi; have := h'.lo; have := h'.hi
  constructor <;> omega
theorem FrIs.bp {n d p q : Int} {k : Nat} (f : FrIs n d p q) (h : Bd k n) : Bd k p := by
  have := f.p1; have := f.p2; have := h.lo; have := h.hi
  constructor <;> omega
theorem FrIs.bq {n d p q : Int} {k : Nat} (f : FrIs n d p q) (h : Bd k d) : Bd k q := by
  have := f.pos; have := f.q2; have := h.lo; have := h.hi
  constructor <;> omega
abbrev fr2 (p q : Int) : Dat := .tuple [.int p, .int q]
/-- sub, mul, div of small fractions -/
theorem mul_frac_ok {a0 a1 b0 b1 : Int} (s : Sto) (ha : Bd 50 a0) (ha1 : Bd 50 a1) (hb : Bd 50 b0) (hb1 : Bd 50 b1) (h1 : 0 < a1) (h2 : 0 < b1) :
    g_mul [fr2 a0 a1, fr2 b0 b1] s = .ok (fr2 (fn (a0 * b0) (a1 * b1)) (fd (a0 * b0) (a1 * b1))) s := by
  have p := Int.mul_pos h1 h2
  have b := (ha1.mul hb1).mono (show 50 + 50 ≤ 120 by decide)
  have f := frac_ok (a0 * b0) (a1 * b1) s (by omega) b.lo b.hi
  unfold g_mul F_mul
  simp [ha.ok hb (by decide) (by decide), ha1.ok hb1 (by decide) (by decide), f]
theorem sub_frac_ok {a0 a1 b0 b1 : Int} (s : Sto) (ha : Bd 50 a0) (ha1 : Bd 50 a1) (hb : Bd 50 b0) (hb1 : Bd 50 b1) (h1 : 0 < a1) (h2 : 0 < b1) :
    g_sub [fr2 a0 a1, fr2 b0 b1] s = .ok (fr2 (fn (a0 * b1 - b0 * a1) (a1 * b1)) (fd (a0 * b1 - b0 * a1) (a1 * b1))) s := by
  have p := Int.mul_pos h1 h2
  have b := (ha1.mul hb1).mono (show 50 + 50 ≤ 120 by decide)
  have f := frac_ok (a0 * b1 - b0 * a1) (a1 * b1) s (by omega) b.lo b.hi
  unfold g_sub F_sub
  simp [ha.ok hb1 (by decide) (by decide), hb.ok ha1 (by decide) (by decide), ha1.ok hb1 (by decide) (by decide), f]
theorem div_frac_ok {a0 a1 b0 b1 : Int} (s : Sto) (ha : Bd 50 a0) (ha1 : Bd 50 a1) (hb : Bd 50 b0) (hb1 : Bd 50 b1) (h1 : 0 < a1) (h2 : b0 ≠ 0) :
    g_div [fr2 a0 a1, fr2 b0 b1] s = .ok (fr2 (fn (a0 * b1) (a1 * b0)) (fd (a0 * b1) (a1 * b0))) s := by
  have p : a1 * b0 ≠ 0 := Int.mul_ne_zero (by omega) h2
  have b := (ha1.mul hb).mono (show 50 + 50 ≤ 120 by decide)
  have f := frac_ok (a0 * b1) (a1 * b0) s p b.lo b.hi
  unfold g_div F_div
  simp [ha.ok hb1 (by decide) (by decide), ha1.ok hb (by decide) (by decide), f]
abbrev pl (a b c : Int) : Dat := .tuple [.int a, .int b, .int c]
structure Pb (k : Nat) (a b c : Int) : Prop where
  a : Bd k a
  b : Bd k b
  c : Bd k c
theorem sign_at_ok {a b c n d : Int} (s : Sto) (h : Pb 50 a b c) (hn : Bd 60 n) (hd : Bd 60 d) : g_sign_at [pl a b c, fr2 n d] s = .ok (.int (Int.sign (a * d * d + b * n * d + c * n * n))) s := by
  unfold g_sign_at F_sign_at
  simp [h.a.ok hd (by decide) (by decide), (h.a.mul hd).ok hd (by decide) (by decide), h.b.ok hn (by decide) (by decide), (h.b.mul hn).ok hd (by decide) (by decide), h.c.ok hn (by decide) (by decide), (h.c.mul hn).ok hn (by decide) (by decide), sign_of_ok]
theorem law_at_ok {a b c n d : Int} (s : Sto) (h : Pb 50 a b c) (hn : Bd 120 n) (hd : Bd 100 d) : g__law_at [pl a b c, .int n, .int d] s = .ok (.int (Int.sign (a * d * d + b * n * d + c * n * n))) s := by
  unfold g__law_at F__law_at
  simp [h.a.ok hd (by decide) (by decide), (h.a.mul hd).ok hd (by decide) (by decide), h.b.ok hn (by decide) (by decide), (h.b.mul hn).ok hd (by decide) (by decide), h.c.ok hn (by decide) (by decide), (h.c.mul hn).ok hn (by decide) (by decide), lsign_ok]
end LW

namespace LW
open PySem DL L2
/-! ### the root of a number -/
structure IsRt (n r : Int) : Prop where
  nn : 0 ≤ r
  lo : r * r ≤ n
  hi : n < (r + 1) * (r + 1)
theorem rt_unique {n r t : Int} (h : IsRt n r) (h' : IsRt n t) : r = t := by
  have a : r < t + 1 := sq_lt (by have := h'.nn; omega) (by have := h.lo; have := h'.hi; omega)
  have b : t < r + 1 := sq_lt (by have := h.nn; omega) (by have := h'.lo; have := h.hi; omega)
  omega
theorem mid_bd {l h : Int} (hw : 1 < h - l) : l < (l + h) / 2 ∧ (l + h) / 2 < h := by omega
theorem root_loop : ∀ (w : Nat) (n l h : Int) (m : Slt) (s : Sto), 0 ≤ l → Bd 60 h → l * l ≤ n → n < h * h → (h - l).toNat ≤ w → l < h → ∃ r m', IsRt n r ∧
    sWhile C1_root_of B1_root_of [.fz (.int n), .fz (.int l), .fz (.int h), m] s = .nx [.fz (.int n), .fz (.int r), .fz (.int (r + 1)), m'] s := by
  intro w
  induction w with
  | zero => intro n l h m s _ _ _ _ h5 h6; omega
  | succ w ih =>
    intro n l h m s h0 hb h1 h2 h3 h4
    rw [while_step]
    by_cases hw : 1 < h - l
    · obtain ⟨m1, m2⟩ := mid_bd hw
      have mb : Bd 60 ((l + h) / 2) := ⟨by omega, by have := hb.hi; omega⟩
      have c2 : cDiv (l + h) 2 = true := div_okW (by decide) (by decide)
      by_cases t : (l + h) / 2 * ((l + h) / 2) ≤ n
      · obtain ⟨r, m', hr, e⟩ := ih n ((l + h) / 2) h (.fz (.int ((l + h) / 2))) s (by omega) hb t h2 (by omega) (by omega)
        refine ⟨r, m', hr, ?_⟩
        simp [C1_root_of, B1_root_of, hw, c2, mb.ok mb (by decide) (by decide), t, e]
      · obtain ⟨r, m', hr, e⟩ := ih n l ((l + h) / 2) (.fz (.int ((l + h) / 2))) s h0 mb h1 (by omega) (by omega) (by omega)
        refine ⟨r, m', hr, ?_⟩
        simp [C1_root_of, B1_root_of, hw, c2, mb.ok mb (by decide) (by decide), t, e]
    · have : h = l + 1 := by omega
      subst this
      refine ⟨l, m, ⟨h0, h1, h2⟩, ?_⟩
      simp [C1_root_of, hw]
theorem root_of_ok (n : Int) (s : Sto) (h0 : 0 ≤ n) (h1 : n < 2 ^ 50) : ∃ r, IsRt n r ∧ g_root_of [.int n] s = .ok (.int r) s := by
  have hh : n < (n + 1) * (n + 1) := by
    have := Int.mul_le_mul_of_nonneg_right (show 1 ≤ n + 1 by omega) (show 0 ≤ n + 1 by omega)
    omega
  obtain ⟨r, m', hr, e⟩ := root_loop (n + 1).toNat n 0 (n + 1) .un s (by decide) ⟨by omega, by omega⟩ (by omega) hh (by omega) (by omega)
  refine ⟨r, hr, ?_⟩
  unfold g_root_of F_root_of
  simp [e]
theorem lroot_loop : ∀ (ks : List Dat) (k : Nat) (n l h : Int) (a b : Slt) (s : Sto), 0 ≤ l → Bd 60 h → l * l ≤ n → n < h * h → h - l ≤ 2 ^ k → l < h → k ≤ ks.length → ∃ r a' b', IsRt n r ∧
    forL (gSet 3) B1__law_root_of ks [.fz (.int n), .fz (.int l), .fz (.int h), a, b] s = .nx [.fz (.int n), .fz (.int r), .fz (.int (r + 1)), a', b'] s := by
  intro ks
  induction ks with
  | nil =>
    intro k n l h a b s h0 hb h1 h2 h3 h4 h5
    have : k = 0 := by simpa using h5
    subst this
    have : h = l + 1 := by simp at h3; omega
    subst this
    exact ⟨l, a, b, ⟨h0, h1, h2⟩, by simp⟩
  | cons d ks ih =>
    intro k n l h a b s h0 hb h1 h2 h3 h4 h5
    have c2 : cDiv (l + h) 2 = true := div_okW (by decide) (by decide)
    have mb : Bd 60 ((l + h) / 2) := ⟨by have := hb.lo; omega, by have := hb.hi; omega⟩
    by_cases hw : 1 < h - l
    · obtain ⟨m1, m2⟩ := mid_bd hw
      have hk : ∃ j, k = j + 1 := by
        cases k with
        | zero => simp at h3; omega
        | succ j => exact ⟨j, rfl⟩
      obtain ⟨j, rfl⟩ := hk
      have e2 : (2 : Int) ^ (j + 1) = 2 ^ j * 2 := by rw [Int.pow_succ]
      by_cases t : (l + h) / 2 * ((l + h) / 2) ≤ n
      · obtain ⟨r, a', b', hr, e⟩ := ih j n ((l + h) / 2) h (.fz d) (.fz (.int ((l + h) / 2))) s (by omega) hb t h2 (by omega) (by omega) (by simp at h5; omega)
        exact ⟨r, a', b', hr, by simp [B1__law_root_of, c2, mb.ok mb (by decide) (by decide), t, e]⟩
      · obtain ⟨r, a', b', hr, e⟩ := ih j n l ((l + h) / 2) (.fz d) (.fz (.int ((l + h) / 2))) s h0 mb h1 (by omega) (by omega) (by omega) (by simp at h5; omega)
        exact ⟨r, a', b', hr, by simp [B1__law_root_of, c2, mb.ok mb (by decide) (by decide), t, e]⟩
    · have hl : h = l + 1 := by omega
      subst hl
      have em : (l + (l + 1)) / 2 = l := by omega
      rw [em] at mb
      obtain ⟨r, a', b', hr, e⟩ := ih 0 n l (l + 1) (.fz d) (.fz (.int l)) s h0 hb h1 h2 (by simp; omega) (by omega) (Nat.zero_le _)
      exact ⟨r, a', b', hr, by simp [B1__law_root_of, c2, em, mb.ok mb (by decide) (by decide), h1, e]⟩
theorem lroot_of_ok (n : Int) (s : Sto) (h0 : 0 ≤ n) (h1 : n < 2 ^ 50) : ∃ r, IsRt n r ∧ g__law_root_of [.int n] s = .ok (.int r) s := by
  have hh : n < (n + 1) * (n + 1) := by
    have := Int.mul_le_mul_of_nonneg_right (show 1 ≤ n + 1 by omega) (show 0 ≤ n + 1 by omega)
    omega
  have c : cRng 200 = true := by decide
  obtain ⟨r, a', b', hr, e⟩ := lroot_loop (ups 0 200) 60 n 0 (n + 1) .un .un s (by decide) ⟨by omega, by omega⟩ (by omega) hh (by omega) (by omega) (by rw [ups_length]; decide)
  refine ⟨r, hr, ?_⟩
  unfold g__law_root_of F__law_root_of
  simp [c, e]
/-! ### roots -/
abbrev rootD (a b c : Int) (w : Int) : Dat := .tuple [.str "root", pl a b c, .int w]
/-- a polynomial's places, as the program and the law tell them -/
inductive Found (c0 c1 c2 : Int) : List Dat → Prop where
  | none0 : c2 = 0 → c1 = 0 → Found c0 c1 c2 []
  | one0 : c2 = 0 → c1 ≠ 0 → Found c0 c1 c2 [fr2 (fn (-c0) c1) (fd (-c0) c1)]
  | none2 : c2 ≠ 0 → c1 * c1 - 4 * c0 * c2 < 0 → Found c0 c1 c2 []
  | one2 (r : Int) : c2 ≠ 0 → c1 * c1 - 4 * c0 * c2 = 0 → r = 0 → Found c0 c1 c2 [fr2 (fn (-c1 - r) (2 * c2)) (fd (-c1 - r) (2 * c2))]
  | two2 (r x y : Int) : c2 ≠ 0 → r * r = c1 * c1 - 4 * c0 * c2 → 0 < r → (x = -c1 - r ∧ y = -c1 + r ∨ x = -c1 + r ∧ y = -c1 - r) → Found c0 c1 c2 [fr2 (fn x (2 * c2)) (fd x (2 * c2)), fr2 (fn y (2 * c2)) (fd y (2 * c2))]
  | irr (e : Int) : c2 ≠ 0 → (e = 1 ∨ e = -1) → 0 < e * c2 → 0 < c1 * c1 - 4 * c0 * c2 → (∀ x : Int, x * x ≠ c1 * c1 - 4 * c0 * c2) → Found c0 c1 c2 [rootD (e * c0) (e * c1) (e * c2) 0, rootD (e * c0) (e * c1) (e * c2) 1]
theorem eqv_fr2 (a b c d : Int) : PyData.eqv (fr2 a b) (fr2 c d) = (a == c && (b == d)) := by simp [PyData.eqv, PyData.eqvAll]
theorem shaped_fr2 (a b : Int) : SeqAt.shaped (fr2 a b) = true := by simp [SeqAt.shaped, PyData.canLay0, PyData.canLayAll0, PyData.depth, PyData.depthAll]
theorem fr_val {n m d : Int} (hd : d ≠ 0) (h1 : fn n d = fn m d) (h2 : fd n d = fd m d) : n = m := by
  have a := fr_is n hd
  have b := fr_is m hd
  have e1 := a.eq
  have e2 := b.eq
  rw [h1, h2] at e1
  rw [e1] at e2
  exact Int.eq_of_mul_eq_mul_right (by have := b.pos; omega) e2
theorem two_frac_lt {n m d : Int} (hd : d ≠ 0) : (fn m d * fd n d < fn n d * fd m d) ↔ (0 < d ∧ m < n ∨ d < 0 ∧ n < m) := by
  have a := fr_is n hd
  have b := fr_is m hd
  have e1 := a.eq
  have e2 := b.eq
  have pa := a.pos
  have pb := b.pos
  generalize fn n d = p at *
  generalize fd n d = q at *
  generalize fn m d = x at *
  generalize fd m d = y at *
  -- p / q = n / d, x / y = m / d
  have k1 : p * y * d = n * (q * y) := by grind
  have k2 : x * q * d = m * (q * y) := by grind
  have qy : 0 < q * y := Int.mul_pos pa pb
  generalize p * y = u at *
  generalize x * q = v at *
  generalize q * y = w at *
  rcases Int.lt_or_gt_of_ne hd with h | h
  · constructor
    · intro z
      refine .inr ⟨h, ?_⟩
      have : u * d < v * d := Int.mul_lt_mul_of_neg_right z h
      exact Int.lt_of_mul_lt_mul_right (a := w) (by omega) (by omega)
    · rintro (⟨z, _⟩ | ⟨_, z⟩)
      · omega
      · have : n * w < m * w := Int.mul_lt_mul_of_pos_right z qy
        by_cases t : v < u
        · exact t
        · exfalso
          have : v * d ≤ u * d := Int.mul_le_mul_of_nonpos_right (by omega) (by omega)
          omega
  · constructor
    · intro z
      refine .inl ⟨h, ?_⟩
      have : v * d < u * d := Int.mul_lt_mul_of_pos_right z h
      exact Int.lt_of_mul_lt_mul_right (a := w) (by omega) (by omega)
    · rintro (⟨_, z⟩ | ⟨z, _⟩)
      · have : m * w < n * w := Int.mul_lt_mul_of_pos_right z qy
        exact Int.lt_of_mul_lt_mul_right (a := d) (by omega) (by omega)
      · omega
end LW

namespace LW
open PySem DL L2
theorem rt_sq {n r : Int} (h : IsRt n r) (hx : ∃ x, x * x = n) : r * r = n := by
  obtain ⟨x, hx⟩ := hx
  have go : ∀ y : Int, 0 ≤ y → y * y = n → r * r = n := fun y hy e => by
    have : IsRt n y := ⟨hy, by omega, by
      have : (y + 1) * (y + 1) = y * y + 2 * y + 1 := by grind
      omega⟩
    rw [rt_unique h this]; exact e
  rcases Int.le_total 0 x with q | q
  · exact go x q hx
  · exact go (-x) (by omega) (by rw [Int.neg_mul_neg]; exact hx)
theorem both_roots_ok {c0 c1 c2 : Int} (s : Sto) (h : Pb 20 c0 c1 c2) : ∃ L, Found c0 c1 c2 L ∧ g_roots [pl c0 c1 c2] s = .ok (.list L) s ∧ g__law_roots [pl c0 c1 c2] s = .ok (.list L) s := by
  obtain ⟨b0, b1, b2⟩ := h
  have q11 := b1.ok b1 (by decide) (by decide)
  have q40 : cMul 4 c0 = true := (show Bd 3 4 from ⟨by decide, by decide⟩).ok b0 (by decide) (by decide)
  have b40 : Bd 23 (4 * c0) := (show Bd 3 4 from ⟨by decide, by decide⟩).mul b0
  have q402 := b40.ok b2 (by decide) (by decide)
  have q22 : cMul 2 c2 = true := (show Bd 2 2 from ⟨by decide, by decide⟩).ok b2 (by decide) (by decide)
  have b22 : Bd 22 (2 * c2) := (show Bd 2 2 from ⟨by decide, by decide⟩).mul b2
  have b11 : Bd 43 (c1 * c1) := (b1.mul b1).mono (by decide)
  have bD := b11.sub (b40.mul b2)
  by_cases h2 : c2 = 0
  · subst h2
    by_cases h1 : c1 = 0
    · subst h1
      refine ⟨_, .none0 rfl rfl, ?_, ?_⟩
      · unfold g_roots F_roots
        simp [gEq]
      · unfold g__law_roots F__law_roots
        simp [gEq]
    · have f := frac_ok (-c0) c1 s h1 (b1.mono (by decide)).lo (b1.mono (by decide)).hi
      have f2 := lfrac2_ok (-c0) c1 s h1 (b1.mono (by decide)).lo (b1.mono (by decide)).hi
      refine ⟨_, .one0 rfl h1, ?_, ?_⟩
      · unfold g_roots F_roots
        simp [gEq, h1, f]
      · unfold g__law_roots F__law_roots
        simp [gEq, h1, f2]
  · have h22 : (2 * c2) ≠ 0 := by omega
    have bb := b22.mono (show 22 ≤ 120 by decide)
    by_cases hneg : c1 * c1 - 4 * c0 * c2 < 0
    · refine ⟨_, .none2 h2 hneg, ?_, ?_⟩
      · unfold g_roots F_roots
        simp [gEq, h2, q11, q40, q402, hneg]
      · unfold g__law_roots F__law_roots
        simp [gEq, h2, q11, q40, q402, hneg]
    · have hD : c1 * c1 - 4 * c0 * c2 < 2 ^ 50 := by have := (bD.mono (show 43 + 1 ≤ 50 by decide)).hi; exact this
      obtain ⟨r, hr, er⟩ := root_of_ok (c1 * c1 - 4 * c0 * c2) s (by omega) hD
      obtain ⟨r', hr', er'⟩ := lroot_of_ok (c1 * c1 - 4 * c0 * c2) s (by omega) hD
      have e' := rt_unique hr' hr
      subst e'
      have rb : Bd 30 r' := by
        have := hr.nn
        have : r' < 2 ^ 26 := sq_lt (by decide) (by have := hr.lo; omega)
        constructor <;> omega
      have qrr := rb.ok rb (by decide) (by decide)
      by_cases hs : r' * r' = c1 * c1 - 4 * c0 * c2
      · have f1 := frac_ok (-c1 - r') (2 * c2) s h22 bb.lo bb.hi
        have f2 := frac_ok (-c1 + r') (2 * c2) s h22 bb.lo bb.hi
        have g1 := lfrac2_ok (-c1 - r') (2 * c2) s h22 bb.lo bb.hi
        have g2 := lfrac2_ok (-c1 + r') (2 * c2) s h22 bb.lo bb.hi
        by_cases hz : r' = 0
        · subst hz
          have hD0 : c1 * c1 - 4 * c0 * c2 = 0 := by omega
          rw [hD0] at er er'
          refine ⟨_, .one2 0 h2 hD0 rfl, ?_, ?_⟩
          · unfold g_roots F_roots
            simp only [Int.sub_zero, Int.add_zero] at f1 f2
            simp [gEq, h2, q11, q40, q402, er, qrr, q22, f1, f2, shaped_fr2, eqv_fr2, hD0]
          · unfold g__law_roots F__law_roots
            simp only [Int.sub_zero, Int.add_zero] at g1 g2
            by_cases hp : 0 < c2 <;> simp [gEq, h2, q11, q40, q402, er', qrr, q22, g1, g2, shaped_fr2, eqv_fr2, hp, hD0, cutD, HT.sIx]
        · have hrp : 0 < r' := by have := hr.nn; omega
          have hD0 : ¬ c1 * c1 - 4 * c0 * c2 = 0 := fun z => by
            rw [z] at hs
            rcases Int.mul_eq_zero.mp hs with q | q <;> exact hz q
          have ne : ¬ (fn (-c1 - r') (2 * c2) = fn (-c1 + r') (2 * c2) ∧ fd (-c1 - r') (2 * c2) = fd (-c1 + r') (2 * c2)) := fun z => by
            have := fr_val h22 z.1 z.2
            omega
          have fA := fr_is (-c1 - r') h22
          have fB := fr_is (-c1 + r') h22
          have bA : Bd 40 (-c1 - r') := ⟨by have := b1.hi; have := rb.hi; omega, by have := b1.lo; have := rb.lo; omega⟩
          have bB : Bd 40 (-c1 + r') := ⟨by have := b1.hi; have := rb.lo; omega, by have := b1.lo; have := rb.hi; omega⟩
          have pA := fA.bp bA
          have qA := fA.bq (b22.mono (show 22 ≤ 40 by decide))
          have pB := fB.bp bB
          have qB := fB.bq (b22.mono (show 22 ≤ 40 by decide))
          have lt1 := two_frac_lt (n := -c1 - r') (m := -c1 + r') h22
          rcases Int.lt_or_gt_of_ne h2 with hc | hc
          · -- the first one is greater
            have lt : fn (-c1 + r') (2 * c2) * fd (-c1 - r') (2 * c2) < fn (-c1 - r') (2 * c2) * fd (-c1 + r') (2 * c2) := lt1.mpr (.inr ⟨by omega, by omega⟩)
            refine ⟨_, .two2 r' (-c1 + r') (-c1 - r') h2 hs hrp (.inr ⟨rfl, rfl⟩), ?_, ?_⟩
            · have o : g_ordered [.list [fr2 (fn (-c1 - r') (2 * c2)) (fd (-c1 - r') (2 * c2)), fr2 (fn (-c1 + r') (2 * c2)) (fd (-c1 + r') (2 * c2))]] s = .ok (.list [fr2 (fn (-c1 + r') (2 * c2)) (fd (-c1 + r') (2 * c2)), fr2 (fn (-c1 - r') (2 * c2)) (fd (-c1 - r') (2 * c2))]) s := by
                unfold g_ordered F_ordered
                simp [gEq, pA.ok qB (by decide) (by decide), pB.ok qA (by decide) (by decide), lt]
              unfold g_roots F_roots
              simp [gEq, h2, q11, q40, q402, hneg, er, hs, qrr, q22, f1, f2, shaped_fr2, eqv_fr2, ne, o]
            · unfold g__law_roots F__law_roots
              simp [gEq, h2, q11, q40, q402, hneg, er', hs, qrr, q22, g1, g2, show ¬ 0 < c2 by omega, hD0]
          · have lt : ¬ fn (-c1 + r') (2 * c2) * fd (-c1 - r') (2 * c2) < fn (-c1 - r') (2 * c2) * fd (-c1 + r') (2 * c2) := fun z => by
              rcases lt1.mp z with ⟨_, q⟩ | ⟨q, _⟩ <;> omega
            refine ⟨_, .two2 r' (-c1 - r') (-c1 + r') h2 hs hrp (.inl ⟨rfl, rfl⟩), ?_, ?_⟩
            · have o : g_ordered [.list [fr2 (fn (-c1 - r') (2 * c2)) (fd (-c1 - r') (2 * c2)), fr2 (fn (-c1 + r') (2 * c2)) (fd (-c1 + r') (2 * c2))]] s = .ok (.list [fr2 (fn (-c1 - r') (2 * c2)) (fd (-c1 - r') (2 * c2)), fr2 (fn (-c1 + r') (2 * c2)) (fd (-c1 + r') (2 * c2))]) s := by
                unfold g_ordered F_ordered
                simp [gEq, pA.ok qB (by decide) (by decide), pB.ok qA (by decide) (by decide), lt]
              unfold g_roots F_roots
              simp [gEq, h2, q11, q40, q402, hneg, er, hs, qrr, q22, f1, f2, shaped_fr2, eqv_fr2, ne, o]
            · unfold g__law_roots F__law_roots
              simp [gEq, h2, q11, q40, q402, hneg, er', hs, qrr, q22, g1, g2, hc, hD0]
      · have hsq : ∀ x : Int, x * x ≠ c1 * c1 - 4 * c0 * c2 := fun x hx => hs (rt_sq hr ⟨x, hx⟩)
        have hpos : 0 < c1 * c1 - 4 * c0 * c2 := by
          have : c1 * c1 - 4 * c0 * c2 ≠ 0 := fun z => hsq 0 (by rw [z]; rfl)
          omega
        rcases Int.lt_or_gt_of_ne h2 with hc | hc
        · refine ⟨_, .irr (-1) h2 (.inr rfl) (by omega) hpos hsq, ?_, ?_⟩
          · unfold g_roots F_roots
            simp [gEq, h2, q11, q40, q402, hneg, er, hs, qrr, show ¬ 0 < c2 by omega]
          · unfold g__law_roots F__law_roots
            simp [gEq, h2, q11, q40, q402, hneg, er', hs, qrr, show ¬ 0 < c2 by omega]
        · refine ⟨_, .irr 1 h2 (.inl rfl) (by omega) hpos hsq, ?_, ?_⟩
          · unfold g_roots F_roots
            simp [gEq, h2, q11, q40, q402, hneg, er, hs, qrr, hc]
          · unfold g__law_roots F__law_roots
            simp [gEq, h2, q11, q40, q402, hneg, er', hs, qrr, hc]
end LW

namespace LW
open PySem DL L2
/-! ### what stands for p at the roots of own: (U + V x) / a2, and the program's words for it -/
theorem frac1 (n : Int) : fn n 1 = n ∧ fd n 1 = 1 := by simp [fn, fd]
structure Own (a0 a1 a2 : Int) : Prop where
  b7 : Pb 7 a0 a1 a2
  pos : 0 < a2
  dpos : 0 < a1 * a1 - 4 * a0 * a2
  nsq : ∀ x : Int, x * x ≠ a1 * a1 - 4 * a0 * a2
theorem Pb.mono {j k : Nat} {a b c : Int} (h : Pb j a b c) (hk : j ≤ k) : Pb k a b c := ⟨h.a.mono hk, h.b.mono hk, h.c.mono hk⟩
theorem Own.b {a0 a1 a2 : Int} (o : Own a0 a1 a2) : Pb 12 a0 a1 a2 := o.b7.mono (by decide)
def vU (p0 p2 a0 a2 : Int) : Int := p0 * a2 - p2 * a0
/-- u0 / u1 = (p0 a2 - p2 a0) / a2 -/
theorem rest_part {p0 p2 a0 a2 : Int} (ha : 0 < a2) (b0 : Bd 12 p0) (b2 : Bd 12 p2) (c0 : Bd 12 a0) (c2 : Bd 12 a2) (s : Sto) :
    ∃ u0 u1, 0 < u1 ∧ Bd 26 u0 ∧ Bd 26 u1 ∧ u0 * a2 = vU p0 p2 a0 a2 * u1 ∧
      ((g_frac [.int a0, .int 1] s).bind fun d s => (g_mul [fr2 (fn p2 a2) (fd p2 a2), d] s).bind fun m s => (g_frac [.int p0, .int 1] s).bind fun f s => g_sub [f, m] s) = .ok (fr2 u0 u1) s := by
  have F := fr_is p2 (d := a2) (by omega)
  have fe := F.eq
  have fp := F.pos
  have B0 := F.bp b2
  have B1 := F.bq c2
  have f1 := frac_ok a0 1 s (by decide) (by decide) (by decide)
  rw [(frac1 a0).1, (frac1 a0).2] at f1
  have f2 := frac_ok p0 1 s (by decide) (by decide) (by decide)
  rw [(frac1 p0).1, (frac1 p0).2] at f2
  have o1 : Bd 50 1 := ⟨by decide, by decide⟩
  have m := mul_frac_ok (a0 := fn p2 a2) (a1 := fd p2 a2) (b0 := a0) (b1 := 1) s (B0.mono (by decide)) (B1.mono (by decide)) (c0.mono (by decide)) o1 fp (by decide)
  generalize fn p2 a2 = b0' at *
  generalize fd p2 a2 = b1' at *
  have M := fr_is (b0' * a0) (d := b1' * 1) (by omega)
  have me := M.eq
  have mp := M.pos
  have m0 := M.bp (B0.mul c0)
  have m1 := M.bq (B1.mul (show Bd 1 1 from ⟨by decide, by decide⟩))
  generalize fn (b0' * a0) (b1' * 1) = m0' at *
  generalize fd (b0' * a0) (b1' * 1) = m1' at *
  have sb := sub_frac_ok (a0 := p0) (a1 := 1) (b0 := m0') (b1 := m1') s (b0.mono (by decide)) o1 (m0.mono (by decide)) (m1.mono (by decide)) (by decide) mp
  have W := fr_is (p0 * m1' - m0' * 1) (d := 1 * m1') (by omega)
  have we := W.eq
  have wp := W.pos
  have bw : Bd 26 (p0 * m1' - m0' * 1) := by
    have h1 := b0.mul m1
    rw [Int.mul_one]
    exact h1.sub (m0.mono (by decide))
  have w0 := W.bp bw
  have w1 := W.bq (show Bd 26 (1 * m1') by rw [Int.one_mul]; exact m1.mono (by decide))
  refine ⟨_, _, wp, w0, w1, ?_, by simp [f1, m, f2, sb]⟩
  generalize fn (p0 * m1' - m0' * 1) (1 * m1') = u0 at *
  generalize fd (p0 * m1' - m0' * 1) (1 * m1') = u1 at *
  unfold vU
  have h1 : (u0 * a2) * (m1' * b1') = ((p0 * a2 - p2 * a0) * u1) * (m1' * b1') := by grind
  exact Int.eq_of_mul_eq_mul_right (by have := Int.mul_pos mp fp; omega) h1
theorem rest_ok {p0 p1 p2 a0 a1 a2 : Int} (ha : 0 < a2) (bp : Pb 12 p0 p1 p2) (ba : Pb 12 a0 a1 a2) (s : Sto) : ∃ u0 u1 v0 v1, 0 < u1 ∧ 0 < v1 ∧ Bd 26 u0 ∧ Bd 26 u1 ∧ Bd 26 v0 ∧ Bd 26 v1 ∧ u0 * a2 = vU p0 p2 a0 a2 * u1 ∧ v0 * a2 = vU p1 p2 a1 a2 * v1 ∧
    g_rest [pl p0 p1 p2, pl a0 a1 a2] s = .ok (.tuple [fr2 u0 u1, fr2 v0 v1]) s := by
  obtain ⟨u0, u1, k1, k2, k3, k4, k5⟩ := rest_part ha bp.a bp.c ba.a ba.c s
  obtain ⟨v0, v1, l1, l2, l3, l4, l5⟩ := rest_part ha bp.b bp.c ba.b ba.c s
  have f := frac_ok p2 a2 s (by omega) (ba.c.mono (by decide)).lo (ba.c.mono (by decide)).hi
  have ga := frac_ok a0 1 s (by decide) (by decide) (by decide)
  have gb := frac_ok a1 1 s (by decide) (by decide) (by decide)
  have gc := frac_ok p0 1 s (by decide) (by decide) (by decide)
  have gd := frac_ok p1 1 s (by decide) (by decide) (by decide)
  rw [(frac1 a0).1, (frac1 a0).2] at ga
  rw [(frac1 a1).1, (frac1 a1).2] at gb
  rw [(frac1 p0).1, (frac1 p0).2] at gc
  rw [(frac1 p1).1, (frac1 p1).2] at gd
  refine ⟨u0, u1, v0, v1, k1, l1, k2, k3, l2, l3, k4, l4, ?_⟩
  rw [ga] at k5
  rw [gb] at l5
  simp only [bind_ok] at k5 l5
  have F := fr_is p2 (d := a2) (by omega)
  have m1 := mul_frac_ok (a0 := fn p2 a2) (a1 := fd p2 a2) (b0 := a0) (b1 := 1) s ((F.bp bp.c).mono (by decide)) ((F.bq ba.c).mono (by decide)) (ba.a.mono (by decide)) ⟨by decide, by decide⟩ F.pos (by decide)
  have m2 := mul_frac_ok (a0 := fn p2 a2) (a1 := fd p2 a2) (b0 := a1) (b1 := 1) s ((F.bp bp.c).mono (by decide)) ((F.bq ba.c).mono (by decide)) (ba.b.mono (by decide)) ⟨by decide, by decide⟩ F.pos (by decide)
  rw [m1] at k5
  rw [m2] at l5
  simp only [bind_ok] at k5 l5
  rw [gc] at k5
  rw [gd] at l5
  simp only [bind_ok] at k5 l5
  simp only [Int.mul_one] at k5 l5 m1 m2
  unfold g_rest F_rest
  simp [f, ga, gb, gc, gd, m1, m2, k5, l5]
theorem root_side_ok {a0 a1 a2 w t0 t1 : Int} (s : Sto) (ba : Pb 12 a0 a1 a2) (b0 : Bd 60 t0) (b1 : Bd 60 t1) : g_root_side [rootD a0 a1 a2 w, fr2 t0 t1] s =
    .ok (.int (if a0 * t1 * t1 + a1 * t0 * t1 + a2 * t0 * t0 < 0 then (if w = 1 then 1 else -1) else Int.sign (-a1 * t1 - 2 * a2 * t0))) s := by
  have e := sign_at_ok (a := a0) (b := a1) (c := a2) (n := t0) (d := t1) s ⟨ba.a.mono (by decide), ba.b.mono (by decide), ba.c.mono (by decide)⟩ b0 b1
  have q1 := ba.b.neg.ok b1 (by decide) (by decide)
  have q2 : cMul 2 a2 = true := (show Bd 2 2 from ⟨by decide, by decide⟩).ok ba.c (by decide) (by decide)
  have q3 := ((show Bd 2 2 from ⟨by decide, by decide⟩).mul ba.c).ok b0 (by decide) (by decide)
  unfold g_root_side F_root_side
  by_cases h : a0 * t1 * t1 + a1 * t0 * t1 + a2 * t0 * t0 < 0
  · by_cases hw : w = 1 <;> simp [e, h, Int.sign_eq_neg_one_of_neg h, gEq, hw]
  · have hs : ¬ Int.sign (a0 * t1 * t1 + a1 * t0 * t1 + a2 * t0 * t0) < 0 := by
      have := Int.sign_nonneg_iff.mpr (show 0 ≤ a0 * t1 * t1 + a1 * t0 * t1 + a2 * t0 * t0 by omega)
      omega
    simp [e, h, hs, q1, q2, q3, sign_of_ok]
/-- the sign of p at a root of own -/
def sgnAt (p0 p1 p2 a0 a1 a2 w : Int) : Int :=
  let U := vU p0 p2 a0 a2
  let V := vU p1 p2 a1 a2
  let A := 2 * a2 * U - V * a1
  if A * A - V * V * (a1 * a1 - 4 * a0 * a2) < 0 then (if w = 1 then Int.sign V else -Int.sign V) else Int.sign A
theorem sign_of_eq {x y c d : Int} (hc : 0 < c) (hd : 0 < d) (h : x * c = y * d) : Int.sign x = Int.sign y := by
  have : Int.sign (x * c) = Int.sign (y * d) := by rw [h]
  rw [Int.sign_mul, Int.sign_mul, Int.sign_eq_one_of_pos hc, Int.sign_eq_one_of_pos hd, Int.mul_one, Int.mul_one] at this
  exact this
theorem sign_on_root {p0 p1 p2 a0 a1 a2 w : Int} (s : Sto) (bp : Pb 12 p0 p1 p2) (o : Own a0 a1 a2) (hw : w = 0 ∨ w = 1) : g_sign_on [pl p0 p1 p2, rootD a0 a1 a2 w] s = .ok (.int (sgnAt p0 p1 p2 a0 a1 a2 w)) s := by
  obtain ⟨u0, u1, v0, v1, u1p, v1p, bu0, bu1, bv0, bv1, eu, ev, er⟩ := rest_ok o.pos bp o.b s
  have su : Int.sign u0 = Int.sign (vU p0 p2 a0 a2) := sign_of_eq o.pos u1p eu
  have sv : Int.sign v0 = Int.sign (vU p1 p2 a1 a2) := sign_of_eq o.pos v1p ev
  have hU : ∀ x : Int, 0 ≤ x * x := fun x => by
    rcases Int.le_total 0 x with q | q
    · exact Int.mul_nonneg q q
    · have := Int.mul_nonneg (show 0 ≤ -x by omega) (show 0 ≤ -x by omega)
      rw [Int.neg_mul_neg] at this; exact this
  have a2p := o.pos
  unfold sgnAt
  simp only
  by_cases hv : v0 = 0
  · have hV : vU p1 p2 a1 a2 = 0 := Int.sign_eq_zero_iff_zero.mp (by rw [← sv, hv]; rfl)
    have hs := sign_of_ok u0 s
    rw [hV]
    have e2 : 2 * a2 * vU p0 p2 a0 a2 - 0 * a1 = vU p0 p2 a0 a2 * (2 * a2) := by grind
    have e3 : Int.sign (vU p0 p2 a0 a2 * (2 * a2)) = Int.sign (vU p0 p2 a0 a2) := by rw [Int.sign_mul, Int.sign_eq_one_of_pos (show 0 < 2 * a2 by omega), Int.mul_one]
    have nn := hU (vU p0 p2 a0 a2 * (2 * a2))
    have n1 : ¬ (vU p0 p2 a0 a2 * (2 * a2)) * (vU p0 p2 a0 a2 * (2 * a2)) - 0 * 0 * (a1 * a1 - 4 * a0 * a2) < 0 := by
      rw [Int.mul_zero, Int.zero_mul]; omega
    rw [e2, if_neg n1, e3, ← su]
    unfold g_sign_on F_sign_on
    simp [gNe, gEq, er, hv, hs, show SeqAt.shaped (.str (Str.ofString "root")) = true by decide +kernel, PyData.eqv]
  · have fw := frac_ok (-u0) u1 s (by omega) (bu1.mono (by decide)).lo (bu1.mono (by decide)).hi
    have W := fr_is (-u0) (d := u1) (by omega)
    have we := W.eq
    have wp := W.pos
    have bw0 := W.bp bu0.neg
    have bw1 := W.bq bu1
    generalize fn (-u0) u1 = w0 at *
    generalize fd (-u0) u1 = w1 at *
    have m50 : ∀ {x : Int}, Bd 26 x → Bd 50 x := fun h => h.mono (by decide)
    have dv := div_frac_ok (a0 := w0) (a1 := w1) (b0 := v0) (b1 := v1) s (m50 bw0) (m50 bw1) (m50 bv0) (m50 bv1) wp hv
    have T := fr_is (w0 * v1) (d := w1 * v0) (Int.mul_ne_zero (by omega) hv)
    have te := T.eq
    have tp := T.pos
    have bt0 := (T.bp (bw0.mul bv1)).mono (show 26 + 26 ≤ 60 by decide)
    have bt1 := (T.bq (bw1.mul bv0)).mono (show 26 + 26 ≤ 60 by decide)
    generalize fn (w0 * v1) (w1 * v0) = t0 at *
    generalize fd (w0 * v1) (w1 * v0) = t1 at *
    have nV : vU p1 p2 a1 a2 ≠ 0 := fun z => by
      rw [z] at sv
      exact hv (Int.sign_eq_zero_iff_zero.mp (by rw [sv]; rfl))
    generalize vU p0 p2 a0 a2 = U at *
    generalize vU p1 p2 a1 a2 = V at *
    -- t0 / t1 = - U / V
    have tv : t0 * V = -U * t1 := by
      have h : (t0 * V) * (w1 * v1 * u1) = (-U * t1) * (w1 * v1 * u1) := by
        have e1 : t0 * (w1 * v0) = w0 * v1 * t1 := te
        have e2 : w0 * u1 = -u0 * w1 := we
        have k : a2 * ((t0 * V) * (w1 * v1 * u1)) = a2 * ((-U * t1) * (w1 * v1 * u1)) := by grind
        exact Int.eq_of_mul_eq_mul_left (by omega) k
      exact Int.eq_of_mul_eq_mul_right (by have := Int.mul_pos (Int.mul_pos wp v1p) u1p; omega) h
    have hs := root_side_ok (w := w) s o.b bt0 bt1
    have hq : 4 * a2 * (V * V * (a0 * t1 * t1 + a1 * t0 * t1 + a2 * t0 * t0)) = ((2 * a2 * U - V * a1) * (2 * a2 * U - V * a1) - V * V * (a1 * a1 - 4 * a0 * a2)) * (t1 * t1) := by grind
    have hl : V * (-a1 * t1 - 2 * a2 * t0) = (2 * a2 * U - V * a1) * t1 := by grind
    have pVV : 0 < V * V := by
      have := hU V
      have : V * V ≠ 0 := Int.mul_ne_zero nV nV
      omega
    have ptt : 0 < t1 * t1 := Int.mul_pos tp tp
    have key : (a0 * t1 * t1 + a1 * t0 * t1 + a2 * t0 * t0 < 0) ↔ ((2 * a2 * U - V * a1) * (2 * a2 * U - V * a1) - V * V * (a1 * a1 - 4 * a0 * a2) < 0) := by
      generalize a0 * t1 * t1 + a1 * t0 * t1 + a2 * t0 * t0 = x at *
      generalize (2 * a2 * U - V * a1) * (2 * a2 * U - V * a1) - V * V * (a1 * a1 - 4 * a0 * a2) = y at *
      have h := sign_of_eq (x := x) (y := y) (c := 4 * a2 * (V * V)) (d := t1 * t1) (Int.mul_pos (by omega) pVV) ptt (by grind)
      rw [← Int.sign_neg_iff, h, Int.sign_neg_iff]
    have res : g_sign_on [pl p0 p1 p2, rootD a0 a1 a2 w] s = .ok (.int (Int.sign v0 * (if a0 * t1 * t1 + a1 * t0 * t1 + a2 * t0 * t0 < 0 then (if w = 1 then 1 else -1) else Int.sign (-a1 * t1 - 2 * a2 * t0)))) s := by
      have q1 : cMul (Int.sign v0) (if a0 * t1 * t1 + a1 * t0 * t1 + a2 * t0 * t0 < 0 then (if w = 1 then 1 else -1) else Int.sign (-a1 * t1 - 2 * a2 * t0)) = true := by
        have sb : ∀ x : Int, Bd 2 (Int.sign x) := fun x => by
          rcases Int.lt_trichotomy x 0 with h | h | h
          · rw [Int.sign_eq_neg_one_of_neg h]; exact ⟨by decide, by decide⟩
          · subst h; exact ⟨by decide, by decide⟩
          · rw [Int.sign_eq_one_of_pos h]; exact ⟨by decide, by decide⟩
        refine (sb v0).ok (k := 2) ?_ (by decide) (by decide)
        split
        · split <;> exact ⟨by decide, by decide⟩
        · exact sb _
      unfold g_sign_on F_sign_on
      simp [gNe, gEq, er, hv, hs, fw, dv, sign_of_ok, q1, show SeqAt.shaped (.str (Str.ofString "root")) = true by decide +kernel, PyData.eqv]
    rw [res, sv]
    congr 2
    by_cases h : (2 * a2 * U - V * a1) * (2 * a2 * U - V * a1) - V * V * (a1 * a1 - 4 * a0 * a2) < 0
    · rw [if_pos (key.mpr h), if_pos h]
      split
      · rw [Int.mul_one]
      · rw [Int.mul_neg, Int.mul_one]
    · rw [if_neg (fun z => h (key.mp z)), if_neg h]
      have h3 : Int.sign V * Int.sign (-a1 * t1 - 2 * a2 * t0) = Int.sign ((2 * a2 * U - V * a1) * t1) := by rw [← Int.sign_mul, hl]
      rw [h3, Int.sign_mul, Int.sign_eq_one_of_pos tp, Int.mul_one]
end LW

namespace LW
open PySem DL L2
/-! ### the span of a root -/
/-- is x / 2^90 right of the root? -/
def tst (a0 a1 a2 w x : Int) : Bool :=
  let rt := decide (0 < 2 * a2 * x + a1 * NN)
  let ins := decide (Int.sign (a0 * NN * NN + a1 * x * NN + a2 * x * x) < 0)
  (decide (w = 0) && (rt || ins)) || (decide (w = 1) && rt && !ins)
theorem shl90 : (1 : Int) * 2 ^ (90 : Int).toNat = NN := by decide
theorem pow90 : cPow 1 90 = true := by decide
theorem pow91 : cPow 1 91 = true := by decide
theorem bNN : Bd 91 NN := ⟨by decide, by decide⟩
theorem span_turn {a0 a1 a2 w l h : Int} (ba : Pb 12 a0 a1 a2) (bl : Bd 110 l) (bh : Bd 110 h) (hw : w = 0 ∨ w = 1) (x0 x1 x2 x3 x4 x7 b8 b9 b10 : Slt) (s : Sto) (h2 : x2 = .fz (pl a0 a1 a2)) (h3 : x3 = .fz (.int w)) :
    ∃ b8' b9' b10', B1__law_span [x0, x1, x2, x3, x4, .fz (.int l), .fz (.int h), x7, b8, b9, b10] s =
      if tst a0 a1 a2 w ((l + h) / 2) then .nx [x0, x1, x2, x3, x4, .fz (.int l), .fz (.int ((l + h) / 2)), x7, b8', b9', b10'] s else .nx [x0, x1, x2, x3, x4, .fz (.int ((l + h) / 2)), .fz (.int h), x7, b8', b9', b10'] s := by
  subst h2 h3
  have c2 : cDiv (l + h) 2 = true := div_okW (by decide) (by decide)
  have bm : Bd 111 ((l + h) / 2) := by
    have := bl.lo; have := bl.hi; have := bh.lo; have := bh.hi
    constructor <;> omega
  have q1 : cMul 2 a2 = true := (show Bd 2 2 from ⟨by decide, by decide⟩).ok ba.c (by decide) (by decide)
  have q2 := ((show Bd 2 2 from ⟨by decide, by decide⟩).mul ba.c).ok bm (by decide) (by decide)
  have q3 := ba.b.ok bNN (by decide) (by decide)
  have e := law_at_ok (a := a0) (b := a1) (c := a2) (n := (l + h) / 2) (d := NN) s ⟨ba.a.mono (by decide), ba.b.mono (by decide), ba.c.mono (by decide)⟩ (bm.mono (by decide)) (bNN.mono (by decide))
  refine ⟨.fz (.int ((l + h) / 2)), .fz (.bool (decide (0 < 2 * a2 * ((l + h) / 2) + a1 * NN))), .fz (.bool (decide (Int.sign (a0 * NN * NN + a1 * ((l + h) / 2) * NN + a2 * ((l + h) / 2) * ((l + h) / 2)) < 0))), ?_⟩
  unfold B1__law_span tst
  rcases hw with hw | hw
  · subst hw
    by_cases r : 0 < 2 * a2 * ((l + h) / 2) + a1 * NN
    · simp [c2, q1, q2, q3, pow90, e, r, gEq]
    · by_cases i : Int.sign (a0 * NN * NN + a1 * ((l + h) / 2) * NN + a2 * ((l + h) / 2) * ((l + h) / 2)) < 0 <;> simp [c2, q1, q2, q3, pow90, e, r, i, gEq]
  · subst hw
    by_cases r : 0 < 2 * a2 * ((l + h) / 2) + a1 * NN
    · by_cases i : Int.sign (a0 * NN * NN + a1 * ((l + h) / 2) * NN + a2 * ((l + h) / 2) * ((l + h) / 2)) < 0 <;> simp [c2, q1, q2, q3, pow90, e, r, i, gEq]
    · simp [c2, q1, q2, q3, pow90, e, r, gEq]
theorem span_loop : ∀ (ks : List Dat) (k : Nat) (a0 a1 a2 w l h : Int) (x0 x1 x4 x7 b8 b9 b10 : Slt) (s : Sto), Pb 12 a0 a1 a2 → (w = 0 ∨ w = 1) → Bd 110 l → Bd 110 h → l < h → h - l ≤ 2 ^ k → k ≤ ks.length → tst a0 a1 a2 w l = false → tst a0 a1 a2 w h = true →
    ∃ L x7' b8' b9' b10', Bd 110 L ∧ tst a0 a1 a2 w L = false ∧ tst a0 a1 a2 w (L + 1) = true ∧
    forL (gSet 7) B1__law_span ks [x0, x1, .fz (pl a0 a1 a2), .fz (.int w), x4, .fz (.int l), .fz (.int h), x7, b8, b9, b10] s = .nx [x0, x1, .fz (pl a0 a1 a2), .fz (.int w), x4, .fz (.int L), .fz (.int (L + 1)), x7', b8', b9', b10'] s := by
  intro ks
  induction ks with
  | nil =>
    intro k a0 a1 a2 w l h x0 x1 x4 x7 b8 b9 b10 s ba hw bl bh hlt hk hk2 t1 t2
    have : k = 0 := by simpa using hk2
    subst this
    have : h = l + 1 := by simp at hk; omega
    subst this
    exact ⟨l, x7, b8, b9, b10, bl, t1, t2, by simp⟩
  | cons d ks ih =>
    intro k a0 a1 a2 w l h x0 x1 x4 x7 b8 b9 b10 s ba hw bl bh hlt hk hk2 t1 t2
    obtain ⟨b8', b9', b10', e⟩ := span_turn ba bl bh hw x0 x1 _ _ x4 (.fz d) b8 b9 b10 s rfl rfl
    have bm : Bd 110 ((l + h) / 2) := by
      have := bl.lo; have := bl.hi; have := bh.lo; have := bh.hi
      constructor <;> omega
    by_cases hw1 : 1 < h - l
    · obtain ⟨m1, m2⟩ := mid_bd hw1
      have hk : ∃ j, k = j + 1 := by
        cases k with
        | zero => simp at hk; omega
        | succ j => exact ⟨j, rfl⟩
      obtain ⟨j, rfl⟩ := hk
      have e2 : (2 : Int) ^ (j + 1) = 2 ^ j * 2 := by rw [Int.pow_succ]
      by_cases t : tst a0 a1 a2 w ((l + h) / 2) = true
      · obtain ⟨L, y7, y8, y9, y10, g1, g2, g3, g4⟩ := ih j a0 a1 a2 w l ((l + h) / 2) x0 x1 x4 (.fz d) b8' b9' b10' s ba hw bl bm (by omega) (by omega) (by simp at hk2; omega) t1 t
        exact ⟨L, y7, y8, y9, y10, g1, g2, g3, by simp [e, t, g4]⟩
      · have t' : tst a0 a1 a2 w ((l + h) / 2) = false := by simpa using t
        obtain ⟨L, y7, y8, y9, y10, g1, g2, g3, g4⟩ := ih j a0 a1 a2 w ((l + h) / 2) h x0 x1 x4 (.fz d) b8' b9' b10' s ba hw bm bh (by omega) (by omega) (by simp at hk2; omega) t' t2
        exact ⟨L, y7, y8, y9, y10, g1, g2, g3, by simp [e, t', g4]⟩
    · have hl : h = l + 1 := by omega
      subst hl
      have em : (l + (l + 1)) / 2 = l := by omega
      rw [em, t1] at e
      obtain ⟨L, y7, y8, y9, y10, g1, g2, g3, g4⟩ := ih 0 a0 a1 a2 w l (l + 1) x0 x1 x4 (.fz d) b8' b9' b10' s ba hw bl bh (by omega) (by simp; omega) (Nat.zero_le _) t1 t2
      exact ⟨L, y7, y8, y9, y10, g1, g2, g3, by simp [e, g4]⟩
/-- y = 2 a2 x + a1 N tells where x is -/
theorem tst_ends {a0 a1 a2 w : Int} (o : Own a0 a1 a2) (hw : w = 0 ∨ w = 1) (f : Int) (hf : f = ((if a0 < 0 then -a0 else a0) + (if a1 < 0 then -a1 else a1) + 1) * NN) : tst a0 a1 a2 w (-f) = false ∧ tst a0 a1 a2 w f = true := by
  have a2p := o.pos
  generalize hA0 : (if a0 < 0 then -a0 else a0) = z0 at hf
  generalize hA1 : (if a1 < 0 then -a1 else a1) = z1 at hf
  have z0p : 0 ≤ z0 ∧ -z0 ≤ a0 ∧ a0 ≤ z0 := by rw [← hA0]; split <;> omega
  have z1p : 0 ≤ z1 ∧ -z1 ≤ a1 ∧ a1 ≤ z1 := by rw [← hA1]; split <;> omega
  have n0 : (0 : Int) < NN := by decide
  have fe : f = z0 * NN + z1 * NN + NN := by rw [hf]; grind
  have k0 : 0 ≤ z0 * NN := Int.mul_nonneg z0p.1 (by omega)
  have k1 : 0 ≤ z1 * NN := Int.mul_nonneg z1p.1 (by omega)
  have fp : 0 < f := by omega
  have k2 : a1 * NN ≤ z1 * NN := Int.mul_le_mul_of_nonneg_right z1p.2.2 (by omega)
  have k3 : -(z1 * NN) ≤ a1 * NN := by
    have := Int.mul_le_mul_of_nonneg_right z1p.2.1 (show (0 : Int) ≤ NN by omega)
    rw [Int.neg_mul] at this; exact this
  have k4 : 1 * f ≤ a2 * f := Int.mul_le_mul_of_nonneg_right (by omega) (by omega)
  -- a0 N N + a1 x N + a2 x x is not below 0 at f, -f
  have sq : a2 * f * f ≥ f * f := by
    have := Int.mul_le_mul_of_nonneg_right k4 (show 0 ≤ f by omega)
    rw [Int.one_mul] at this; exact this
  have c0 : -(z0 * NN) ≤ a0 * NN := by
    have := Int.mul_le_mul_of_nonneg_right z0p.2.1 (show (0 : Int) ≤ NN by omega)
    rw [Int.neg_mul] at this; exact this
  have c1 : -(z0 * NN) * NN ≤ a0 * NN * NN := Int.mul_le_mul_of_nonneg_right c0 (by omega)
  have c2 : z1 * NN * f ≤ (f - z0 * NN - NN) * f := Int.mul_le_mul_of_nonneg_right (by omega) (by omega)
  have c3 : a1 * NN * f ≤ z1 * NN * f := Int.mul_le_mul_of_nonneg_right k2 (by omega)
  have c4 : -(z1 * NN) * f ≤ a1 * NN * f := Int.mul_le_mul_of_nonneg_right k3 (by omega)
  have c5 : z0 * NN * NN ≤ z0 * NN * f := Int.mul_le_mul_of_nonneg_left (by omega) k0
  have c6 : 0 ≤ NN * f := Int.mul_nonneg (by omega) (by omega)
  have p1 : 0 ≤ a0 * NN * NN + a1 * f * NN + a2 * f * f := by
    have e1 : a1 * f * NN = a1 * NN * f := by grind
    have e2 : (f - z0 * NN - NN) * f = f * f - z0 * NN * f - NN * f := by grind
    have e3 : -(z0 * NN) * NN = -(z0 * NN * NN) := by grind
    have e4 : -(z1 * NN) * f = -(z1 * NN * f) := by grind
    omega
  have p2 : 0 ≤ a0 * NN * NN + a1 * (-f) * NN + a2 * (-f) * (-f) := by
    have e1 : a1 * (-f) * NN = -(a1 * NN * f) := by grind
    have e2 : (f - z0 * NN - NN) * f = f * f - z0 * NN * f - NN * f := by grind
    have e3 : -(z0 * NN) * NN = -(z0 * NN * NN) := by grind
    have e5 : a2 * (-f) * (-f) = a2 * f * f := by grind
    omega
  have r1 : 0 < 2 * a2 * f + a1 * NN := by
    have : 2 * a2 * f = 2 * (a2 * f) := by grind
    omega
  have r2 : ¬ 0 < 2 * a2 * (-f) + a1 * NN := by
    have : 2 * a2 * (-f) = -(2 * (a2 * f)) := by grind
    omega
  have s1 : ¬ Int.sign (a0 * NN * NN + a1 * f * NN + a2 * f * f) < 0 := by
    have := Int.sign_nonneg_iff.mpr p1
    omega
  have s2 : ¬ Int.sign (a0 * NN * NN + a1 * (-f) * NN + a2 * (-f) * (-f)) < 0 := by
    have := Int.sign_nonneg_iff.mpr p2
    omega
  unfold tst
  generalize NN = Nn at *
  rcases hw with hw | hw <;> subst hw <;> simp [r1, r2, s1, s2]
theorem span_ok {a0 a1 a2 w : Int} (o : Own a0 a1 a2) (hw : w = 0 ∨ w = 1) (s : Sto) : ∃ L, Bd 110 L ∧ tst a0 a1 a2 w L = false ∧ tst a0 a1 a2 w (L + 1) = true ∧ g__law_span [rootD a0 a1 a2 w] s = .ok (.tuple [.int L, .int (L + 1)]) s := by
  have c : cRng 130 = true := by decide
  have ba := o.b
  generalize hf : ((if a0 < 0 then -a0 else a0) + (if a1 < 0 then -a1 else a1) + 1) * NN = f
  obtain ⟨t1, t2⟩ := tst_ends o hw f hf.symm
  have z : 1 ≤ (if a0 < 0 then -a0 else a0) + (if a1 < 0 then -a1 else a1) + 1 ∧ (if a0 < 0 then -a0 else a0) + (if a1 < 0 then -a1 else a1) + 1 ≤ 2 ^ 13 := by
    have := ba.a.lo; have := ba.a.hi; have := ba.b.lo; have := ba.b.hi
    constructor <;> (split <;> split <;> omega)
  have q : cMul ((if a0 < 0 then -a0 else a0) + (if a1 < 0 then -a1 else a1) + 1) NN = true := (show Bd 14 _ from ⟨by omega, by omega⟩).ok bNN (by decide) (by decide)
  have fp : 0 < f ∧ f ≤ 2 ^ 103 := by
    rw [← hf]
    have h1 := Int.mul_le_mul_of_nonneg_right z.1 (show (0 : Int) ≤ NN by decide)
    have h2 := Int.mul_le_mul_of_nonneg_right z.2 (show (0 : Int) ≤ NN by decide)
    have n : (NN : Int) = 2 ^ 90 := by decide
    omega
  obtain ⟨L, y7, y8, y9, y10, g1, g2, g3, g4⟩ := span_loop (ups 0 130) 110 a0 a1 a2 w (-f) f (.fz (rootD a0 a1 a2 w)) (.fz (.str "root")) (.fz (.int f)) .un .un .un .un s ba hw ⟨by omega, by omega⟩ ⟨by omega, by omega⟩ (by omega) (by omega) (by rw [ups_length]; decide) t1 t2
  refine ⟨L, g1, g2, g3, ?_⟩
  unfold g__law_span F__law_span
  simp [gNe, show SeqAt.shaped (.str (Str.ofString "root")) = true by decide +kernel, PyData.eqv, pow90, q, hf, c, g4]

/-- what the span's ends say, by y = 2 a2 x + a1 N -/
theorem tst_y {a0 a1 a2 x : Int} (a2p : 0 < a2) : (Int.sign (a0 * NN * NN + a1 * x * NN + a2 * x * x) < 0) ↔ (2 * a2 * x + a1 * NN) * (2 * a2 * x + a1 * NN) < (a1 * a1 - 4 * a0 * a2) * (NN * NN) := by
  rw [Int.sign_neg_iff]
  have e : (a0 * NN * NN + a1 * x * NN + a2 * x * x) * (4 * a2) = (2 * a2 * x + a1 * NN) * (2 * a2 * x + a1 * NN) - (a1 * a1 - 4 * a0 * a2) * (NN * NN) := by grind
  have h := sign_of_eq (x := a0 * NN * NN + a1 * x * NN + a2 * x * x) (y := (2 * a2 * x + a1 * NN) * (2 * a2 * x + a1 * NN) - (a1 * a1 - 4 * a0 * a2) * (NN * NN)) (c := 4 * a2) (d := 1) (by omega) (by decide) (by rw [e, Int.mul_one])
  rw [← Int.sign_neg_iff, h, Int.sign_neg_iff]
  omega
/-- which of the two: 1 or -1 -/
def sg (w : Int) : Int := if w = 1 then 1 else -1
theorem span_brk {a0 a1 a2 w L : Int} (o : Own a0 a1 a2) (hw : w = 0 ∨ w = 1) (t1 : tst a0 a1 a2 w L = false) (t2 : tst a0 a1 a2 w (L + 1) = true) (hd : a1 * a1 - 4 * a0 * a2 < 2 ^ 20) :
    Brk (a1 * a1 - 4 * a0 * a2) a2 (sg w * (a2 * (2 * L + 1) + a1 * NN)) := by
  have a2p := o.pos
  have dp := o.dpos
  have y1 := tst_y (a0 := a0) (a1 := a1) (x := L) a2p
  have y2 := tst_y (a0 := a0) (a1 := a1) (x := L + 1) a2p
  have el : 2 * a2 * L + a1 * NN = (a2 * (2 * L + 1) + a1 * NN) - a2 := by grind
  have eh : 2 * a2 * (L + 1) + a1 * NN = (a2 * (2 * L + 1) + a1 * NN) + a2 := by grind
  unfold tst at t1 t2
  rw [el] at y1 t1
  rw [eh] at y2 t2
  generalize a2 * (2 * L + 1) + a1 * NN = Y at *
  have b2 : a2 < 2 ^ 10 := by have := o.b7.c.hi; omega
  have dn : 0 < (a1 * a1 - 4 * a0 * a2) * (NN * NN) := Int.mul_pos dp (by decide)
  have key : ∀ Z : Int, (Z - a2 ≤ 0 ∨ (Z - a2) * (Z - a2) < (a1 * a1 - 4 * a0 * a2) * (NN * NN)) → 0 < Z + a2 → (a1 * a1 - 4 * a0 * a2) * (NN * NN) ≤ (Z + a2) * (Z + a2) → Brk (a1 * a1 - 4 * a0 * a2) a2 Z := fun Z h1 h2 h3 => ⟨by omega, hd, a2p, b2, h1, h2, h3⟩
  rw [Int.sign_neg_iff] at y1 y2
  generalize a0 * NN * NN + a1 * L * NN + a2 * L * L = P1 at *
  generalize a0 * NN * NN + a1 * (L + 1) * NN + a2 * (L + 1) * (L + 1) = P2 at *
  generalize (a1 * a1 - 4 * a0 * a2) * (NN * NN) = R at *
  rcases hw with hw | hw
  · subst hw
    have es : sg 0 = -1 := by decide
    rw [es]
    simp at t1 t2
    have q1 : (-1 * Y - a2) * (-1 * Y - a2) = (Y + a2) * (Y + a2) := by grind
    have q2 : (-1 * Y + a2) * (-1 * Y + a2) = (Y - a2) * (Y - a2) := by grind
    refine key _ ?_ ?_ ?_
    · rw [q1]
      omega
    · have : Y - a2 ≠ 0 := fun z => by
        rw [z, Int.mul_zero] at y1
        omega
      omega
    · rw [q2]
      omega
  · subst hw
    have es : sg 1 = 1 := by decide
    rw [es, Int.one_mul]
    simp at t1 t2
    exact key _ (by omega) (by omega) (by omega)
theorem sgn_small {p0 p1 p2 a0 a1 a2 : Int} (bp : Pb 7 p0 p1 p2) (o : Own a0 a1 a2) : Sml (2 * a2 * vU p0 p2 a0 a2 - vU p1 p2 a1 a2 * a1) (vU p1 p2 a1 a2) p2 ∧ a1 * a1 - 4 * a0 * a2 < 2 ^ 20 := by
  have ba := o.b7
  have u1 := bp.a.mul ba.c
  have u2 := bp.c.mul ba.a
  have v1 := bp.b.mul ba.c
  have v2 := bp.c.mul ba.b
  have bu := u1.sub u2
  have bv := v1.sub v2
  have c1 := ((show Bd 2 2 from ⟨by decide, by decide⟩).mul ba.c).mul bu
  have c2 := bv.mul ba.b
  have d1 := ba.b.mul ba.b
  have d2 := ((show Bd 3 4 from ⟨by decide, by decide⟩).mul ba.a).mul ba.c
  unfold vU
  have hA := c1.sub (c2.mono (show 7 + 7 + 1 + 7 ≤ 2 + 7 + (7 + 7 + 1) by decide))
  have hD := d1.lo
  have hD2 := d1.hi
  have hD3 := d2.lo
  have hD4 := d2.hi
  have := hA.lo; have := hA.hi; have := bv.lo; have := bv.hi; have := bp.c.lo; have := bp.c.hi
  exact ⟨⟨by omega, by omega, by omega, by omega, by omega, by omega⟩, by omega⟩
end LW

namespace LW
open PySem DL L2
theorem ediv_bd {a m b : Int} (hm : 0 < m) (h1 : -b ≤ a) (h2 : a ≤ b) : -b ≤ a / m ∧ a / m ≤ b := by
  have e := Int.mul_ediv_add_emod a m
  have r0 := Int.emod_nonneg a (show m ≠ 0 by omega)
  have r1 := Int.emod_lt_of_pos a hm
  constructor
  · apply (Int.le_ediv_iff_mul_le hm).mpr
    have := Int.mul_le_mul_of_nonneg_left (a := 1) (b := m) (c := b) (by omega) (by omega)
    rw [Int.neg_mul]
    by_cases hb : b = 0
    · subst hb; omega
    · by_cases h0 : 0 ≤ a
      · omega
      · omega
  · have : a / m < b + 1 := Int.ediv_lt_of_lt_mul hm (by
      have := Int.mul_le_mul_of_nonneg_left (a := 1) (b := m) (c := b + 1) (by omega) (by omega)
      omega)
    omega
theorem Bd.div {k : Nat} {x y : Int} (h : Bd k x) (hy : 1 ≤ y) : Bd k (x / y) := by
  have h1 := h.lo
  have h2 := h.hi
  obtain ⟨a, b⟩ := ediv_bd (a := x) (m := y) (b := 2 ^ k - 1) (by omega) (by omega) (by omega)
  exact ⟨by omega, by omega⟩
theorem mx1 (g : Int) : maxL [1, g] = if 1 < g then g else 1 := by
  by_cases q : 1 < g <;> simp [maxL, q]
theorem gcd_le2 (a b : Int) {n : Int} (h1 : -n ≤ a) (h2 : a ≤ n) (h3 : -n ≤ b) (h4 : b ≤ n) : (Int.gcd a b : Int) ≤ n := by
  by_cases ha : a = 0
  · subst ha
    simp
    omega
  · have : Int.gcd a b ≤ a.natAbs := Nat.gcd_le_left _ (by omega)
    omega
theorem kon (b : Int) (k : Nat) (h1 : -(2 ^ k : Int) < b) (h2 : b < 2 ^ k) : Bd k b := ⟨h1, h2⟩
theorem mbd {x y a b : Int} (h1 : -a ≤ x) (h2 : x ≤ a) (h3 : -b ≤ y) (h4 : y ≤ b) : -(a * b) ≤ x * y ∧ x * y ≤ a * b := by
  have m1 : (x + a) * (y + b) ≥ 0 := Int.mul_nonneg (by omega) (by omega)
  have m2 : (x + a) * (b - y) ≥ 0 := Int.mul_nonneg (by omega) (by omega)
  have m3 : (a - x) * (y + b) ≥ 0 := Int.mul_nonneg (by omega) (by omega)
  have m4 : (a - x) * (b - y) ≥ 0 := Int.mul_nonneg (by omega) (by omega)
  rw [Int.add_mul, Int.mul_add, Int.mul_add] at m1
  rw [Int.add_mul, Int.mul_sub, Int.mul_sub] at m2
  rw [Int.sub_mul, Int.mul_add, Int.mul_add] at m3
  rw [Int.sub_mul, Int.mul_sub, Int.mul_sub] at m4
  constructor <;> omega
/-- no number but 1 divides all three, if they are not all 0 -/
def Prim3 (a b c : Int) : Prop := Int.gcd (Int.gcd a b) c = 1 ∨ (a = 0 ∧ b = 0 ∧ c = 0)
theorem gcd0 {a b : Int} (h : (Int.gcd a b : Int) = 0) : a = 0 ∧ b = 0 := by
  have : Int.gcd a b = 0 := by omega
  exact Int.gcd_eq_zero_iff.mp this
theorem prim3 (a b c m : Int) (hm : (if (1 : Int) < (Int.gcd (Int.gcd a b) c : Int) then (Int.gcd (Int.gcd a b) c : Int) else 1) = m) : Prim3 (a / m) (b / m) (c / m) := by
  by_cases q : (1 : Int) < (Int.gcd (Int.gcd a b) c : Int)
  · rw [if_pos q] at hm
    have d1 : m ∣ (Int.gcd a b : Int) := by rw [← hm]; exact Int.gcd_dvd_left _ _
    have d2 : m ∣ c := by rw [← hm]; exact Int.gcd_dvd_right _ _
    have da : m ∣ a := Int.dvd_trans d1 (Int.gcd_dvd_left _ _)
    have db : m ∣ b := Int.dvd_trans d1 (Int.gcd_dvd_right _ _)
    have ea := Int.mul_ediv_cancel' da
    have eb := Int.mul_ediv_cancel' db
    have ec := Int.mul_ediv_cancel' d2
    have mm : (m.natAbs : Int) = m := by omega
    refine .inl ?_
    have g1 : Int.gcd a b = m.natAbs * Int.gcd (a / m) (b / m) := by rw [← Int.gcd_mul_left, ea, eb]
    have g2 : (Int.gcd (Int.gcd a b) c : Int) = m * (Int.gcd (Int.gcd (a / m) (b / m)) (c / m) : Int) := by
      have e1 : ((Int.gcd a b : Nat) : Int) = m * (Int.gcd (a / m) (b / m) : Int) := by rw [g1, Int.natCast_mul, mm]
      have e2 : Int.gcd (m * (Int.gcd (a / m) (b / m) : Int)) (m * (c / m)) = m.natAbs * Int.gcd (Int.gcd (a / m) (b / m) : Int) (c / m) := Int.gcd_mul_left _ _ _
      rw [e1, ← ec, ← mm, mm, ec]
      rw [ec] at e2
      rw [e2, Int.natCast_mul, mm]
    rw [hm] at g2
    have : m * 1 = m * (Int.gcd (Int.gcd (a / m) (b / m)) (c / m) : Int) := by omega
    have := Int.eq_of_mul_eq_mul_left (by omega) this
    omega
  · rw [if_neg q] at hm
    subst hm
    rw [Int.ediv_one, Int.ediv_one, Int.ediv_one]
    by_cases z : (Int.gcd (Int.gcd a b) c : Int) = 0
    · obtain ⟨h1, h2⟩ := gcd0 z
      obtain ⟨h3, h4⟩ := gcd0 h1
      exact .inr ⟨h3, h4, h2⟩
    · exact .inl (by omega)
theorem law_poly_ok (B : Int) (hB : 0 ≤ B) (hB2 : B ≤ 30) (cs : List Int) (k : Int) (hk : 0 ≤ k) (hk2 : k < 2 ^ 39) : ∃ a b c k', k ≤ k' ∧ k' ≤ k + 8 ∧ Pb 7 a b c ∧ Prim3 a b c ∧ g__law_poly [cel 0, .int B] (dst cs k) = .ok (pl a b c) (dst cs k') := by
  obtain ⟨v, v0, v1, hv⟩ := next_ok cs k 6 hk (by omega) (by decide)
  obtain ⟨x, x0, x1, hx⟩ := next_ok cs (k + 1) (2 * B + 1) (by omega) (by omega) (by omega)
  obtain ⟨y, y0, y1, hy⟩ := next_ok cs (k + 1 + 1) (2 * B + 1) (by omega) (by omega) (by omega)
  obtain ⟨z, z0, z1, hz⟩ := next_ok cs (k + 1 + 1 + 1) (2 * B + 1) (by omega) (by omega) (by omega)
  have u0 : ups 0 3 = [PyData.int 0, PyData.int 1, PyData.int 2] := by simp [ups, List.range_succ]
  have c3 : cRng 3 = true := by decide
  have q61 : cMul 2 B = true := mul_okW (by decide) (by decide) (by omega) (by omega)
  have fin : ∀ (a b c k' : Int), Bd 7 a → Bd 7 b → Bd 7 c → ∃ m, 1 ≤ m ∧ Pb 7 (a / m) (b / m) (c / m) ∧ Prim3 (a / m) (b / m) (c / m) ∧ cDiv a m = true ∧ cDiv b m = true ∧ cDiv c m = true ∧ maxL [1, (Int.gcd (Int.gcd a b) c : Int)] = m ∧
      g__law_common [.int a, .int b] (dst cs k') = .ok (.int (Int.gcd a b)) (dst cs k') ∧ g__law_common [.int (Int.gcd a b), .int c] (dst cs k') = .ok (.int (Int.gcd (Int.gcd a b) c)) (dst cs k') := by
    intro a b c k' ha hb hc
    have := ha.lo; have := ha.hi; have := hb.lo; have := hb.hi; have := hc.lo; have := hc.hi
    have g1 : (Int.gcd a b : Int) ≤ 2 ^ 7 := gcd_le2 a b (by omega) (by omega) (by omega) (by omega)
    have g2 : (Int.gcd (Int.gcd a b) c : Int) ≤ 2 ^ 7 := gcd_le2 _ c (by omega) (by omega) (by omega) (by omega)
    have e := mx1 (Int.gcd (Int.gcd a b) c : Int)
    generalize hm : (if (1 : Int) < (Int.gcd (Int.gcd a b) c : Int) then (Int.gcd (Int.gcd a b) c : Int) else 1) = m at e
    have h : 1 ≤ m ∧ m ≤ 2 ^ 7 := by
      by_cases q : (1 : Int) < (Int.gcd (Int.gcd a b) c : Int)
      · rw [if_pos q] at hm; omega
      · rw [if_neg q] at hm; omega
    have d : ∀ x : Int, cDiv x m = true := fun x => div_okW (by omega) (by omega)
    exact ⟨m, h.1, ⟨ha.div h.1, hb.div h.1, hc.div h.1⟩, prim3 a b c m hm, d _, d _, d _, e, lcommon_ok a b _ (by omega) (by omega), lcommon_ok _ c _ (by omega) (by omega)⟩
  have fz : ∀ l : List Dat, (l.map Slt.fz) = l.map Slt.fz := fun _ => rfl
  by_cases k0 : v = 0
  · subst k0
    obtain ⟨a, a0, a1, ha⟩ := next_ok cs (k + 1 + 1 + 1 + 1) 6 (by omega) (by omega) (by decide)
    obtain ⟨b, b0, b1, hb⟩ := next_ok cs (k + 1 + 1 + 1 + 1 + 1) 9 (by omega) (by omega) (by decide)
    obtain ⟨c, c0, c1, hc⟩ := next_ok cs (k + 1 + 1 + 1 + 1 + 1 + 1) 6 (by omega) (by omega) (by decide)
    obtain ⟨d, d0, d1, hd⟩ := next_ok cs (k + 1 + 1 + 1 + 1 + 1 + 1 + 1) 9 (by omega) (by omega) (by decide)
    have t1 := mbd (x := b - 2) (y := d - 2) (a := 6) (b := 6) (by omega) (by omega) (by omega) (by omega)
    have t2 := mbd (x := -(b - 2)) (y := 1 + c) (a := 6) (b := 6) (by omega) (by omega) (by omega) (by omega)
    have t3 := mbd (x := 1 + a) (y := d - 2) (a := 6) (b := 6) (by omega) (by omega) (by omega) (by omega)
    have t4 := mbd (x := 1 + a) (y := 1 + c) (a := 6) (b := 6) (by omega) (by omega) (by omega) (by omega)
    have s1 : cMul (b - 2) (d - 2) = true := mul_okW (by omega) (by omega) (by omega) (by omega)
    have s2 : cMul (-(b - 2)) (1 + c) = true := mul_okW (by omega) (by omega) (by omega) (by omega)
    have s3 : cMul (1 + a) (d - 2) = true := mul_okW (by omega) (by omega) (by omega) (by omega)
    have s4 : cMul (1 + a) (1 + c) = true := mul_okW (by omega) (by omega) (by omega) (by omega)
    obtain ⟨m, m1, bp, pr, d1, d2, d3, e, g1, g2⟩ := fin ((b - 2) * (d - 2)) (-(b - 2) * (1 + c) - (1 + a) * (d - 2)) ((1 + a) * (1 + c)) (k + 1 + 1 + 1 + 1 + 1 + 1 + 1 + 1) ⟨by omega, by omega⟩ ⟨by omega, by omega⟩ ⟨by omega, by omega⟩
    refine ⟨_, _, _, k + 1 + 1 + 1 + 1 + 1 + 1 + 1 + 1, by omega, by omega, bp, pr, ?_⟩
    unfold g__law_poly F__law_poly
    unfold dst at *
    simp [hv, c3, u0, q61, E1__law_poly, E2__law_poly, hx, hy, hz, ha, hb, hc, hd, gEq, s1, s2, s3, s4, g1, g2, d1, d2, d3, ints?, e]
  · by_cases k1 : v = 1
    · subst k1
      obtain ⟨m, m1, bp, pr, d1, d2, d3, e, g1, g2⟩ := fin (x - B) (y - B) 0 (k + 1 + 1 + 1 + 1) ⟨by omega, by omega⟩ ⟨by omega, by omega⟩ ⟨by omega, by omega⟩
      refine ⟨_, _, _, k + 1 + 1 + 1 + 1, by omega, by omega, bp, pr, ?_⟩
      unfold g__law_poly F__law_poly
      unfold dst at *
      simp only [Int.gcd_zero, Int.natAbs_natCast] at g2 e
      have ix : ixN 3 2 = some 2 := by decide
      simp [hv, c3, u0, q61, E1__law_poly, E2__law_poly, hx, hy, hz, gEq, g1, g2, d1, d2, d3, ints?, e, ixN]
    · by_cases k2 : v = 2
      · subst k2
        obtain ⟨a, a0, a1, ha⟩ := next_ok cs (k + 1 + 1 + 1 + 1) 9 (by omega) (by omega) (by decide)
        obtain ⟨b, b0, b1, hb⟩ := next_ok cs (k + 1 + 1 + 1 + 1 + 1) 7 (by omega) (by omega) (by decide)
        obtain ⟨c, c0, c1, hc⟩ := next_ok cs (k + 1 + 1 + 1 + 1 + 1 + 1) 4 (by omega) (by omega) (by decide)
        have t1 := mbd (x := 1 + a) (y := 2 + b) (a := 9) (b := 8) (by omega) (by omega) (by omega) (by omega)
        have s1 : cMul (1 + a) (2 + b) = true := mul_okW (by omega) (by omega) (by omega) (by omega)
        obtain ⟨m, m1, bp, pr, d1, d2, d3, e, g1, g2⟩ := fin (c - 1) (-(2 + b)) ((1 + a) * (2 + b)) (k + 1 + 1 + 1 + 1 + 1 + 1 + 1) ⟨by omega, by omega⟩ ⟨by omega, by omega⟩ ⟨by omega, by omega⟩
        refine ⟨_, _, _, k + 1 + 1 + 1 + 1 + 1 + 1 + 1, by omega, by omega, bp, pr, ?_⟩
        unfold g__law_poly F__law_poly
        unfold dst at *
        simp only [Int.gcd_neg] at g1 g2 e
        simp [hv, c3, u0, q61, E1__law_poly, E2__law_poly, hx, hy, hz, ha, hb, hc, gEq, s1, g1, g2, d1, d2, d3, ints?, e]
      · obtain ⟨m, m1, bp, pr, d1, d2, d3, e, g1, g2⟩ := fin (x - B) (y - B) (z - B) (k + 1 + 1 + 1 + 1) ⟨by omega, by omega⟩ ⟨by omega, by omega⟩ ⟨by omega, by omega⟩
        refine ⟨_, _, _, k + 1 + 1 + 1 + 1, by omega, by omega, bp, pr, ?_⟩
        unfold g__law_poly F__law_poly
        unfold dst at *
        simp [hv, c3, u0, q61, E1__law_poly, E2__law_poly, hx, hy, hz, gEq, k0, k1, k2, g1, g2, d1, d2, d3, ints?, e]
end LW

namespace LW
open PySem DL L2
/-! ### the whole form -/
def lc (a b : Int) : Int := a / Int.gcd a b * b
theorem gcd_pos_l {a : Int} (b : Int) (h : 0 < a) : (0 : Int) < Int.gcd a b := by
  rw [Int.gcd_comm]; exact gcd_pos_r b h
theorem lc_pos {a b : Int} (ha : 0 < a) (hb : 0 < b) : 0 < lc a b := by
  have hg := gcd_pos_l b ha
  have h1 : 1 ≤ a / Int.gcd a b := (Int.le_ediv_iff_mul_le hg).mpr (by have := Int.gcd_le_left b ha; omega)
  exact Int.mul_pos (by omega) hb
theorem lc_le {a b : Int} (ha : 0 < a) (hb : 0 < b) : lc a b ≤ a * b := Int.mul_le_mul_of_nonneg_right (Int.ediv_le_self _ (by omega)) (by omega)
theorem dvd_lc_r (a b : Int) : b ∣ lc a b := ⟨a / Int.gcd a b, by unfold lc; rw [Int.mul_comm]⟩
theorem dvd_lc_l {a b : Int} (ha : 0 < a) : a ∣ lc a b := by
  have hg := gcd_pos_l b ha
  obtain ⟨c, hc⟩ := Int.gcd_dvd_right a b
  have h1 : a / Int.gcd a b * Int.gcd a b = a := Int.ediv_mul_cancel (Int.gcd_dvd_left a b)
  refine ⟨c, ?_⟩
  unfold lc
  generalize a / Int.gcd a b = q at h1 ⊢
  generalize (Int.gcd a b : Int) = g at h1 hc hg
  grind
def mx (g : Int) : Int := if 1 < g then g else 1
def wL (d0 d1 d2 : Int) : Int := lc (lc (lc 1 d0) d1) d2
def w3 (n0 d0 n1 d1 n2 d2 : Int) : Int × Int × Int :=
  let L := wL d0 d1 d2
  let N0 := n0 * (L / d0)
  let N1 := n1 * (L / d1)
  let N2 := n2 * (L / d2)
  let g : Int := Int.gcd (Int.gcd N0 N1) N2
  (N0 / mx g, N1 / mx g, N2 / mx g)
abbrev fr (n d : Int) : Dat := .tuple [.int n, .int d]
abbrev int3 (t : Int × Int × Int) : Dat := .tuple [.int t.1, .int t.2.1, .int t.2.2]
structure Fr (n d : Int) : Prop where
  p : 0 < d
  d2 : d < 2 ^ 60
  n1 : -(2 ^ 60 : Int) < n
  n2 : n < 2 ^ 60
theorem wL_pos {d0 d1 d2 : Int} (h0 : 0 < d0) (h1 : 0 < d1) (h2 : 0 < d2) : 0 < wL d0 d1 d2 := lc_pos (lc_pos (lc_pos (by decide) h0) h1) h2
theorem lc_one (d : Int) : lc 1 d = d := by unfold lc; simp
theorem mul_bd {x a b : Int} (h1 : -a ≤ x) (h2 : x ≤ a) (hb : 0 ≤ b) : -(a * b) ≤ x * b ∧ x * b ≤ a * b := by
  have k1 := Int.mul_le_mul_of_nonneg_right h1 hb
  have k2 := Int.mul_le_mul_of_nonneg_right h2 hb
  rw [Int.neg_mul] at k1
  exact ⟨k1, k2⟩
theorem whole_ok {n0 d0 n1 d1 n2 d2 : Int} (s : Sto) (f0 : Fr n0 d0) (f1 : Fr n1 d1) (f2 : Fr n2 d2) : g_whole [.tuple [fr n0 d0, fr n1 d1, fr n2 d2]] s = .ok (int3 (w3 n0 d0 n1 d1 n2 d2)) s := by
  have l0 : lc 1 d0 = d0 := lc_one d0
  have p1 := lc_pos f0.p f1.p
  have q1 := lc_le f0.p f1.p
  have b1 : lc d0 d1 < 2 ^ 120 := by
    have : d0 * d1 ≤ 2 ^ 60 * 2 ^ 60 := Int.mul_le_mul (by have := f0.d2; omega) (by have := f1.d2; omega) (by have := f1.p; omega) (by decide)
    have e : (2 : Int) ^ 60 * 2 ^ 60 = 2 ^ 120 := by decide
    have : d0 * d1 < 2 ^ 120 := by
      have h1 : d0 ≤ 2 ^ 60 - 1 := by have := f0.d2; omega
      have h2 : d1 ≤ 2 ^ 60 - 1 := by have := f1.d2; omega
      have := Int.mul_le_mul h1 h2 (by have := f1.p; omega) (by decide)
      have e2 : ((2 : Int) ^ 60 - 1) * (2 ^ 60 - 1) < 2 ^ 120 := by decide
      omega
    omega
  have p2 := lc_pos p1 f2.p
  have q2 := lc_le p1 f2.p
  have b2 : lc (lc d0 d1) d2 < 2 ^ 180 := by
    have h1 : lc d0 d1 ≤ 2 ^ 120 - 1 := by omega
    have h2 : d2 ≤ 2 ^ 60 - 1 := by have := f2.d2; omega
    have := Int.mul_le_mul h1 h2 (by have := f2.p; omega) (by decide)
    have e2 : ((2 : Int) ^ 120 - 1) * (2 ^ 60 - 1) < 2 ^ 180 := by decide
    omega
  have eL : wL d0 d1 d2 = lc (lc d0 d1) d2 := by unfold wL; rw [l0]
  -- the numbers
  have dv : ∀ {d : Int}, 0 < d → 0 ≤ wL d0 d1 d2 / d ∧ wL d0 d1 d2 / d < 2 ^ 180 := fun {d} hd => by
    have h1 : 0 ≤ wL d0 d1 d2 / d := Int.ediv_nonneg (by omega) (by omega)
    have h2 : wL d0 d1 d2 / d ≤ wL d0 d1 d2 := Int.ediv_le_self _ (by omega)
    exact ⟨h1, by omega⟩
  have nb : ∀ {n d : Int}, Fr n d → -(2 ^ 240 : Int) < n * (wL d0 d1 d2 / d) ∧ n * (wL d0 d1 d2 / d) < 2 ^ 240 := fun {n d} f => by
    obtain ⟨z1, z2⟩ := dv f.p
    obtain ⟨y1, y2⟩ := mul_bd (x := n) (a := 2 ^ 60) (by have := f.n1; omega) (by have := f.n2; omega) z1
    have : (2 : Int) ^ 60 * (wL d0 d1 d2 / d) ≤ 2 ^ 60 * (2 ^ 180 - 1) := Int.mul_le_mul_of_nonneg_left (by omega) (by decide)
    have e2 : (2 : Int) ^ 60 * (2 ^ 180 - 1) < 2 ^ 240 := by decide
    omega
  have c1 : ∀ {a b : Int}, 0 < a → a < 2 ^ 200 → 0 < b → b < 2 ^ 60 → cDiv a (Int.gcd a b) = true ∧ cMul (a / Int.gcd a b) b = true := fun {a b} ha ha2 hb hb2 => by
    have h1 := gcd_pos_l b ha
    have h2 := gcd_le_r a hb
    have h3 : a / Int.gcd a b ≤ a := Int.ediv_le_self _ (by omega)
    have h4 : 0 ≤ a / Int.gcd a b := Int.ediv_nonneg (by omega) (by omega)
    exact ⟨div_okW h1 (by omega), mul_okW (by omega) (by omega) (by omega) (by omega)⟩
  have k0 := c1 (a := 1) (b := d0) (by decide) (by decide) f0.p f0.d2
  have k1 := c1 f0.p (by have := f0.d2; omega) f1.p f1.d2
  have k2 := c1 p1 (by omega) f2.p f2.d2
  have g0 : cMul n0 (wL d0 d1 d2 / d0) = true := by obtain ⟨z1, z2⟩ := dv f0.p; exact mul_okW (by have := f0.n1; omega) (by have := f0.n2; omega) (by omega) (by omega)
  have g1 : cMul n1 (wL d0 d1 d2 / d1) = true := by obtain ⟨z1, z2⟩ := dv f1.p; exact mul_okW (by have := f1.n1; omega) (by have := f1.n2; omega) (by omega) (by omega)
  have g2 : cMul n2 (wL d0 d1 d2 / d2) = true := by obtain ⟨z1, z2⟩ := dv f2.p; exact mul_okW (by have := f2.n1; omega) (by have := f2.n2; omega) (by omega) (by omega)
  have e0 : cDiv (wL d0 d1 d2) d0 = true := div_okW f0.p (by have := f0.d2; omega)
  have e1 : cDiv (wL d0 d1 d2) d1 = true := div_okW f1.p (by have := f1.d2; omega)
  have e2 : cDiv (wL d0 d1 d2) d2 = true := div_okW f2.p (by have := f2.d2; omega)
  have i0 : ∀ (x y z : Dat), L2.atI [x, y, z] 0 = some x := fun _ _ _ => rfl
  have i1 : ∀ (x y z : Dat), L2.atI [x, y, z] 1 = some y := fun _ _ _ => rfl
  have i2 : ∀ (x y z : Dat), L2.atI [x, y, z] 2 = some z := fun _ _ _ => rfl
  obtain ⟨n01, n02⟩ := nb f0
  obtain ⟨n11, n12⟩ := nb f1
  obtain ⟨n21, n22⟩ := nb f2
  have mxb : 0 < mx (Int.gcd (Int.gcd (n0 * (wL d0 d1 d2 / d0)) (n1 * (wL d0 d1 d2 / d1))) (n2 * (wL d0 d1 d2 / d2))) ∧ mx (Int.gcd (Int.gcd (n0 * (wL d0 d1 d2 / d0)) (n1 * (wL d0 d1 d2 / d1))) (n2 * (wL d0 d1 d2 / d2))) < 2 ^ 241 := by
    have gb : ∀ {a b : Int}, a.natAbs < 2 ^ 240 → b.natAbs < 2 ^ 240 → Int.gcd a b < 2 ^ 240 := fun {a b} ha hb => by
      by_cases z : a = 0
      · subst z; rw [Int.zero_gcd]; exact hb
      · exact Nat.lt_of_le_of_lt (Int.gcd_le_natAbs_left b z) ha
    have h1 := gb (a := n0 * (wL d0 d1 d2 / d0)) (b := n1 * (wL d0 d1 d2 / d1)) (by omega) (by omega)
    have h2 := gb (a := (Int.gcd (n0 * (wL d0 d1 d2 / d0)) (n1 * (wL d0 d1 d2 / d1)) : Int)) (b := n2 * (wL d0 d1 d2 / d2)) (by omega) (by omega)
    unfold mx
    split <;> omega
  have mm : ∀ x : Int, maxL [1, x] = mx x := fun x => by
    unfold mx
    simp only [maxL]
    by_cases h : 1 < x
    · rw [if_pos h]; exact if_pos h
    · rw [if_neg h]; exact if_neg h
  have dm : ∀ x : Int, cDiv x (mx (Int.gcd (Int.gcd (n0 * (wL d0 d1 d2 / d0)) (n1 * (wL d0 d1 d2 / d1))) (n2 * (wL d0 d1 d2 / d2)))) = true := fun x => div_okW mxb.1 (by omega)
  have s1 : d0 / ↑(d0.gcd d1) * d1 = lc d0 d1 := rfl
  have s2 : (lc d0 d1) / ↑((lc d0 d1).gcd d2) * d2 = lc (lc d0 d1) d2 := rfl
  have d1' : cDiv 1 1 = true := by decide
  have m1' : cMul 1 d0 = true := mul_okW (by decide) (by decide) (by have := f0.p; omega) (by have := f0.d2; omega)
  unfold g_whole F_whole
  rw [eL] at g0 g1 g2 e0 e1 e2 mxb dm
  simp [B1_whole, E2_whole, E3_whole, common_ok, d1', m1', k1.1, k1.2, s1, k2.1, k2.2, s2, e0, e1, e2, g0, g1, g2, i0, i1, i2, mm, dm, w3, eL]

/-! ### the law's own claims of the whole form -/
theorem mx_pos (g : Int) : 0 < mx g := by unfold mx; split <;> omega
structure W3 (n0 d0 n1 d1 n2 d2 : Int) (t : Int × Int × Int) : Prop where
  gcd : (Int.gcd (Int.gcd t.1 t.2.1) t.2.2 : Int) = 0 ∨ (Int.gcd (Int.gcd t.1 t.2.1) t.2.2 : Int) = 1
  x01 : t.1 * n1 * d0 = t.2.1 * n0 * d1
  x02 : t.1 * n2 * d0 = t.2.2 * n0 * d2
  x12 : t.2.1 * n2 * d1 = t.2.2 * n1 * d2
  s0 : Int.sign t.1 = Int.sign n0
  s1 : Int.sign t.2.1 = Int.sign n1
  s2 : Int.sign t.2.2 = Int.sign n2
theorem sign_mul_pos {a b : Int} (hb : 0 < b) : Int.sign (a * b) = Int.sign a := by rw [Int.sign_mul, Int.sign_eq_one_of_pos hb, Int.mul_one]
theorem gcd3_mul (t0 t1 t2 : Int) (m : Nat) : Int.gcd (Int.gcd (m * t0) (m * t1)) (m * t2) = m * Int.gcd (Int.gcd t0 t1) t2 := by
  rw [Int.gcd_mul_left, Int.natAbs_natCast]
  push_cast
  rw [Int.gcd_mul_left, Int.natAbs_natCast]
theorem w3_is {n0 d0 n1 d1 n2 d2 : Int} (h0 : 0 < d0) (h1 : 0 < d1) (h2 : 0 < d2) : W3 n0 d0 n1 d1 n2 d2 (w3 n0 d0 n1 d1 n2 d2) := by
  have pL := wL_pos h0 h1 h2
  have v0 : d0 ∣ wL d0 d1 d2 := by unfold wL; rw [lc_one]; exact Int.dvd_trans (dvd_lc_l h0) (dvd_lc_l (lc_pos h0 h1))
  have v1 : d1 ∣ wL d0 d1 d2 := by unfold wL; rw [lc_one]; exact Int.dvd_trans (dvd_lc_r d0 d1) (dvd_lc_l (lc_pos h0 h1))
  have v2 : d2 ∣ wL d0 d1 d2 := dvd_lc_r _ _
  have e0 : wL d0 d1 d2 / d0 * d0 = wL d0 d1 d2 := Int.ediv_mul_cancel v0
  have e1 : wL d0 d1 d2 / d1 * d1 = wL d0 d1 d2 := Int.ediv_mul_cancel v1
  have e2 : wL d0 d1 d2 / d2 * d2 = wL d0 d1 d2 := Int.ediv_mul_cancel v2
  have qpos : ∀ {q d : Int}, 0 < d → q * d = wL d0 d1 d2 → 0 < q := fun {q d} hd e => by
    by_cases h : 0 < q
    · exact h
    · have := Int.mul_le_mul_of_nonneg_right (a := q) (b := 0) (c := d) (by omega) (by omega)
      omega
  have p0 := qpos h0 e0
  have p1 := qpos h1 e1
  have p2 := qpos h2 e2
  unfold w3
  simp only
  generalize wL d0 d1 d2 / d0 = q0 at *
  generalize wL d0 d1 d2 / d1 = q1 at *
  generalize wL d0 d1 d2 / d2 = q2 at *
  generalize hL : wL d0 d1 d2 = L at *
  have gd : ∀ N0 N1 N2 : Int, ∃ t0 t1 t2 m : Int, 0 < m ∧ N0 / mx (Int.gcd (Int.gcd N0 N1) N2) = t0 ∧ N1 / mx (Int.gcd (Int.gcd N0 N1) N2) = t1 ∧ N2 / mx (Int.gcd (Int.gcd N0 N1) N2) = t2 ∧ t0 * m = N0 ∧ t1 * m = N1 ∧ t2 * m = N2 ∧ ((Int.gcd (Int.gcd t0 t1) t2 : Int) = 0 ∨ (Int.gcd (Int.gcd t0 t1) t2 : Int) = 1) := by
    intro N0 N1 N2
    by_cases hz : Int.gcd (Int.gcd N0 N1) N2 = 0
    · have hz' := Int.gcd_eq_zero_iff.mp hz
      have hz2 := Int.gcd_eq_zero_iff.mp (show Int.gcd N0 N1 = 0 by have := hz'.1; omega)
      obtain ⟨z0, z1⟩ := hz2
      have z2 := hz'.2
      subst z0 z1 z2
      exact ⟨0, 0, 0, 1, by decide, by simp, by simp, by simp, by decide, by decide, by decide, by simp⟩
    · have hm : mx (Int.gcd (Int.gcd N0 N1) N2) = Int.gcd (Int.gcd N0 N1) N2 := by unfold mx; split <;> omega
      rw [hm]
      have hg : (0 : Int) < Int.gcd (Int.gcd N0 N1) N2 := by omega
      have w2 : (Int.gcd (Int.gcd N0 N1) N2 : Int) ∣ N2 := Int.gcd_dvd_right _ _
      have w01 : (Int.gcd (Int.gcd N0 N1) N2 : Int) ∣ (Int.gcd N0 N1 : Int) := Int.gcd_dvd_left _ _
      obtain ⟨t0, k0⟩ := Int.dvd_trans w01 (Int.gcd_dvd_left N0 N1)
      obtain ⟨t1, k1⟩ := Int.dvd_trans w01 (Int.gcd_dvd_right N0 N1)
      obtain ⟨t2, k2⟩ := w2
      have g3 := gcd3_mul t0 t1 t2 (Int.gcd (Int.gcd N0 N1) N2)
      rw [← k0, ← k1, ← k2] at g3
      generalize Int.gcd (Int.gcd N0 N1) N2 = g at *
      refine ⟨t0, t1, t2, g, hg, ?_, ?_, ?_, ?_, ?_, ?_, .inr ?_⟩
      · rw [k0, Int.mul_ediv_cancel_left _ (by omega)]
      · rw [k1, Int.mul_ediv_cancel_left _ (by omega)]
      · rw [k2, Int.mul_ediv_cancel_left _ (by omega)]
      · rw [k0, Int.mul_comm]
      · rw [k1, Int.mul_comm]
      · rw [k2, Int.mul_comm]
      · have h1 : g * Int.gcd (Int.gcd t0 t1) t2 = g * 1 := by omega
        have := Nat.eq_of_mul_eq_mul_left (by omega) h1
        omega
  obtain ⟨t0, t1, t2, m, hm, a0, a1, a2, c0, c1, c2, hg⟩ := gd (n0 * q0) (n1 * q1) (n2 * q2)
  rw [a0, a1, a2]
  have cancel : ∀ {x y : Int}, x * m = y * m → x = y := fun {x y} h => Int.eq_of_mul_eq_mul_right (by omega) h
  have sg : ∀ {t n q : Int}, 0 < q → t * m = n * q → Int.sign t = Int.sign n := fun {t n q} hq h => by rw [← sign_mul_pos (a := t) hm, h, sign_mul_pos hq]
  exact ⟨hg, cancel (by grind), cancel (by grind), cancel (by grind), sg p0 c0, sg p1 c1, sg p2 c2⟩
end LW

namespace LW
open PySem DL L2
/-! ### the order of places: whole numbers alone -/
/-- the polynomial's value times d d, and its slope -/
def qv (a0 a1 a2 n d : Int) : Int := a0 * d * d + a1 * n * d + a2 * n * n
def yv (a1 a2 n d : Int) : Int := 2 * a2 * n + a1 * d
/-- n / d is right of the root, or is it -/
def Rt (a0 a1 a2 w n d : Int) : Prop := (w = 0 ∧ (0 < yv a1 a2 n d ∨ qv a0 a1 a2 n d < 0)) ∨ (w = 1 ∧ 0 < yv a1 a2 n d ∧ 0 ≤ qv a0 a1 a2 n d)
theorem qy (a0 a1 a2 n d : Int) : qv a0 a1 a2 n d * (4 * a2) = yv a1 a2 n d * yv a1 a2 n d - (a1 * a1 - 4 * a0 * a2) * (d * d) := by unfold qv yv; grind
theorem q_neg {a0 a1 a2 n d : Int} (h : 0 < a2) : qv a0 a1 a2 n d < 0 ↔ yv a1 a2 n d * yv a1 a2 n d < (a1 * a1 - 4 * a0 * a2) * (d * d) := by
  have e := qy a0 a1 a2 n d
  have k := sign_of_eq (x := qv a0 a1 a2 n d) (y := yv a1 a2 n d * yv a1 a2 n d - (a1 * a1 - 4 * a0 * a2) * (d * d)) (c := 4 * a2) (d := 1) (by omega) (by decide) (by rw [e, Int.mul_one])
  rw [← Int.sign_neg_iff, k, Int.sign_neg_iff]
  omega
theorem sq_mono {x y : Int} (h : 0 ≤ x) (hy : x ≤ y) : x * x ≤ y * y := Int.mul_le_mul hy hy h (by omega)
theorem lt_cancel {x y c : Int} (hc : 0 < c) (h : x * c < y * c) : x < y := Int.lt_of_mul_lt_mul_right h (by omega)
theorem le_cancel {x y c : Int} (hc : 0 < c) (h : x * c ≤ y * c) : x ≤ y := Int.le_of_mul_le_mul_right h hc
theorem pos_of_mul {x c : Int} (hc : 0 < c) (h : 0 < x * c) : 0 < x := lt_cancel hc (by rw [Int.zero_mul]; exact h)
theorem rt_mono {a0 a1 a2 w n d n' d' : Int} (ha : 0 < a2) (hd : 0 < d) (hd' : 0 < d') (h : n * d' ≤ n' * d) (r : Rt a0 a1 a2 w n d) : Rt a0 a1 a2 w n' d' := by
  have hy : yv a1 a2 n d * d' ≤ yv a1 a2 n' d' * d := by
    have := Int.mul_le_mul_of_nonneg_left h (show 0 ≤ 2 * a2 by omega)
    have e1 : yv a1 a2 n d * d' = 2 * a2 * (n * d') + a1 * d * d' := by unfold yv; grind
    have e2 : yv a1 a2 n' d' * d = 2 * a2 * (n' * d) + a1 * d * d' := by unfold yv; grind
    omega
  have q := q_neg (a0 := a0) (a1 := a1) (n := n) (d := d) ha
  have q' := q_neg (a0 := a0) (a1 := a1) (n := n') (d := d') ha
  unfold Rt at *
  generalize qv a0 a1 a2 n d = Q at *
  generalize qv a0 a1 a2 n' d' = Q' at *
  generalize yv a1 a2 n d = y at *
  generalize yv a1 a2 n' d' = y' at *
  generalize a1 * a1 - 4 * a0 * a2 = D at *
  have dd : 0 < d * d := Int.mul_pos hd hd
  have dd' : 0 < d' * d' := Int.mul_pos hd' hd'
  have sqm : ∀ u v : Int, (u * v) * (u * v) = u * u * (v * v) := fun u v => by grind
  rcases r with ⟨hw, r⟩ | ⟨hw, r, r2⟩
  · refine .inl ⟨hw, ?_⟩
    rcases r with r | r
    · refine .inl ?_
      have : 0 < y * d' := Int.mul_pos r hd'
      exact pos_of_mul hd (by omega)
    · by_cases h0 : 0 < y'
      · exact .inl h0
      · refine .inr (q'.mpr ?_)
        have r' := q.mp r
        have hn : y' * d ≤ 0 := Int.mul_nonpos_of_nonpos_of_nonneg (by omega) (by omega)
        have s := sq_mono (x := -(y' * d)) (y := -(y * d')) (by omega) (by omega)
        rw [Int.neg_mul_neg, Int.neg_mul_neg, sqm, sqm] at s
        have s2 := Int.mul_lt_mul_of_pos_right r' dd'
        refine lt_cancel dd ?_
        have e : D * (d * d) * (d' * d') = D * (d' * d') * (d * d) := by grind
        omega
  · refine .inr ⟨hw, ?_, ?_⟩
    · have : 0 < y * d' := Int.mul_pos r hd'
      exact pos_of_mul hd (by omega)
    · have h0 : 0 < y * d' := Int.mul_pos r hd'
      have s := sq_mono (x := y * d') (y := y' * d) (by omega) hy
      rw [sqm, sqm] at s
      have r' : D * (d * d) ≤ y * y := by omega
      have s2 := Int.mul_le_mul_of_nonneg_right r' (show 0 ≤ d' * d' by omega)
      have e : D * (d * d) * (d' * d') = D * (d' * d') * (d * d) := by grind
      have : D * (d' * d') ≤ y' * y' := le_cancel dd (by omega)
      omega
theorem tst_rt {a0 a1 a2 w x : Int} : tst a0 a1 a2 w x = true ↔ Rt a0 a1 a2 w x NN := by
  unfold tst Rt
  have e : a0 * NN * NN + a1 * x * NN + a2 * x * x = qv a0 a1 a2 x NN := rfl
  have e2 : 2 * a2 * x + a1 * NN = yv a1 a2 x NN := rfl
  rw [e, e2]
  have s := Int.sign_neg_iff (x := qv a0 a1 a2 x NN)
  change ((decide (w = 0) && (decide (0 < yv a1 a2 x NN) || decide (Int.sign (qv a0 a1 a2 x NN) < 0))) || (decide (w = 1) && decide (0 < yv a1 a2 x NN) && !decide (Int.sign (qv a0 a1 a2 x NN) < 0))) = true ↔ _
  simp only [Bool.or_eq_true, Bool.and_eq_true, decide_eq_true_eq, Bool.not_eq_true', decide_eq_false_iff_not, s]
  omega
theorem tst_rt' {a0 a1 a2 w x : Int} : tst a0 a1 a2 w x = false ↔ ¬ Rt a0 a1 a2 w x NN := by
  rw [← tst_rt]
  simp
theorem n_pos : (0 : Int) < NN := by decide
/-- the span's end is the only one -/
theorem tst_unique {a0 a1 a2 w L M : Int} (ha : 0 < a2) (h1 : tst a0 a1 a2 w L = false) (h2 : tst a0 a1 a2 w (L + 1) = true) (g1 : tst a0 a1 a2 w M = false) (g2 : tst a0 a1 a2 w (M + 1) = true) : L = M := by
  rw [tst_rt'] at h1 g1
  rw [tst_rt] at h2 g2
  have mono : ∀ x y : Int, x ≤ y → Rt a0 a1 a2 w x NN → Rt a0 a1 a2 w y NN := fun x y h => rt_mono ha n_pos n_pos (Int.mul_le_mul_of_nonneg_right h (by decide))
  rcases Int.lt_trichotomy L M with h | h | h
  · exact absurd (mono (L + 1) M (by omega) h2) g1
  · exact h
  · exact absurd (mono (M + 1) L (by omega) g2) h1
structure Bkt (a0 a1 a2 w L : Int) : Prop where
  o : Own a0 a1 a2
  hw : w = 0 ∨ w = 1
  t1 : tst a0 a1 a2 w L = false
  t2 : tst a0 a1 a2 w (L + 1) = true
theorem disc_bd {a0 a1 a2 : Int} (o : Own a0 a1 a2) : a1 * a1 - 4 * a0 * a2 < 2 ^ 20 := (sgn_small (p0 := 0) (p1 := 0) (p2 := 0) ⟨⟨by decide, by decide⟩, ⟨by decide, by decide⟩, ⟨by decide, by decide⟩⟩ o).2
theorem Bkt.brk {a0 a1 a2 w L : Int} (b : Bkt a0 a1 a2 w L) : Brk (a1 * a1 - 4 * a0 * a2) a2 (sg w * (a2 * (2 * L + 1) + a1 * NN)) := span_brk b.o b.hw b.t1 b.t2 (disc_bd b.o)
/-- which side the span's ends lie on -/
theorem Bkt.ends {a0 a1 a2 w L : Int} (b : Bkt a0 a1 a2 w L) : (w = 1 ∧ 0 < yv a1 a2 L NN ∧ qv a0 a1 a2 L NN < 0 ∧ 0 ≤ qv a0 a1 a2 (L + 1) NN) ∨ (w = 0 ∧ yv a1 a2 (L + 1) NN < 0 ∧ 0 ≤ qv a0 a1 a2 L NN ∧ qv a0 a1 a2 (L + 1) NN < 0) := by
  have k := b.brk
  have kb := k.b
  have a2p := b.o.pos
  have q1 := q_neg (a0 := a0) (a1 := a1) (n := L) (d := NN) a2p
  have q2 := q_neg (a0 := a0) (a1 := a1) (n := L + 1) (d := NN) a2p
  have el : yv a1 a2 L NN = (a2 * (2 * L + 1) + a1 * NN) - a2 := by unfold yv; grind
  have eh : yv a1 a2 (L + 1) NN = (a2 * (2 * L + 1) + a1 * NN) + a2 := by unfold yv; grind
  obtain ⟨_, _, _, ka, lo, hi, hi2⟩ := k
  have n90 : (2 : Int) ^ 90 - 2 ^ 10 > 2 ^ 11 := by decide
  rw [el] at q1
  rw [eh] at q2
  rw [el, eh]
  generalize a2 * (2 * L + 1) + a1 * NN = Y at *
  generalize qv a0 a1 a2 L NN = Q1 at *
  generalize qv a0 a1 a2 (L + 1) NN = Q2 at *
  generalize (a1 * a1 - 4 * a0 * a2) * (NN * NN) = R at *
  rcases b.hw with hw | hw
  · subst hw
    have es : sg 0 = -1 := by decide
    rw [es] at lo hi hi2 kb
    have s1 : (-1 * Y - a2) * (-1 * Y - a2) = (Y + a2) * (Y + a2) := by grind
    have s2 : (-1 * Y + a2) * (-1 * Y + a2) = (Y - a2) * (Y - a2) := by grind
    rw [s1] at lo
    rw [s2] at hi2
    exact .inr ⟨rfl, by omega, by omega, by omega⟩
  · subst hw
    have es : sg 1 = 1 := by decide
    rw [es, Int.one_mul] at lo hi hi2 kb
    exact .inl ⟨rfl, by omega, by omega, by omega⟩
/-- near the root -/
theorem Bkt.near {a0 a1 a2 w L : Int} (b : Bkt a0 a1 a2 w L) (x : Int) (h1 : 2 * L ≤ x) (h2 : x ≤ 2 * L + 2) : Brk (a1 * a1 - 4 * a0 * a2) (2 * a2) (sg w * (a2 * x + a1 * NN)) := by
  have k := b.brk
  have kb := k.b
  obtain ⟨d1, d2, ka, ka2, lo, hi, hi2⟩ := k
  have a7 := b.o.b7.c.hi
  have n90 : (2 : Int) ^ 90 - 2 ^ 10 > 2 ^ 11 := by decide
  have hz : ∃ t, -a2 ≤ t ∧ t ≤ a2 ∧ sg w * (a2 * x + a1 * NN) = sg w * (a2 * (2 * L + 1) + a1 * NN) + t := by
    refine ⟨sg w * (a2 * (x - (2 * L + 1))), ?_⟩
    have e : sg w * (a2 * x + a1 * NN) = sg w * (a2 * (2 * L + 1) + a1 * NN) + sg w * (a2 * (x - (2 * L + 1))) := by grind
    have hj : x - (2 * L + 1) = -1 ∨ x - (2 * L + 1) = 0 ∨ x - (2 * L + 1) = 1 := by omega
    have hs : sg w = 1 ∨ sg w = -1 := by rcases b.hw with h | h <;> subst h <;> decide
    rcases hj with h | h | h <;> rcases hs with g | g <;> rw [h, g] <;> rw [h, g] at e <;> exact ⟨by omega, by omega, e⟩
  obtain ⟨t, t1, t2, e⟩ := hz
  rw [e]
  generalize sg w * (a2 * (2 * L + 1) + a1 * NN) = Z at *
  have lo' : (Z - a2) * (Z - a2) < (a1 * a1 - 4 * a0 * a2) * (NN * NN) := by
    rcases lo with h | h
    · omega
    · exact h
  have m1 := sq_mono (x := Z + t - 2 * a2) (y := Z - a2) (by omega) (by omega)
  have m2 := sq_mono (x := Z + a2) (y := Z + t + 2 * a2) (by omega) (by omega)
  exact ⟨d1, d2, by omega, by omega, .inr (by omega), by omega, by omega⟩
theorem sgn_ne {p0 p1 p2 a0 a1 a2 w : Int} (o : Own a0 a1 a2) (h : 2 * a2 * vU p0 p2 a0 a2 - vU p1 p2 a1 a2 * a1 ≠ 0 ∨ vU p1 p2 a1 a2 ≠ 0) : sgnAt p0 p1 p2 a0 a1 a2 w ≠ 0 := by
  have nE := no_sq o.nsq h
  have dp := o.dpos
  unfold sgnAt
  simp only
  generalize 2 * a2 * vU p0 p2 a0 a2 - vU p1 p2 a1 a2 * a1 = A at *
  generalize vU p1 p2 a1 a2 = V at *
  generalize a1 * a1 - 4 * a0 * a2 = D at *
  have nn : ∀ x : Int, 0 ≤ x * x := fun x => by
    rcases Int.le_total 0 x with q | q
    · exact Int.mul_nonneg q q
    · have := Int.mul_nonneg (show 0 ≤ -x by omega) (show 0 ≤ -x by omega)
      rw [Int.neg_mul_neg] at this; exact this
  split
  · rename_i hE
    have hV : V ≠ 0 := fun z => by
      subst z
      have := nn A
      rw [Int.zero_mul, Int.zero_mul] at hE
      omega
    split
    · intro z; exact hV (Int.sign_eq_zero_iff_zero.mp z)
    · intro z
      have : Int.sign V = 0 := by omega
      exact hV (Int.sign_eq_zero_iff_zero.mp this)
  · rename_i hE
    intro z
    have hA : A = 0 := Int.sign_eq_zero_iff_zero.mp z
    subst hA
    have := Int.mul_nonneg (nn V) (show 0 ≤ D by omega)
    rw [Int.zero_mul] at hE nE
    omega
/-- the sign at the root is the sign anywhere near it -/
theorem Bkt.sgn {p0 p1 p2 a0 a1 a2 w L : Int} (b : Bkt a0 a1 a2 w L) (m : Sml (2 * a2 * vU p0 p2 a0 a2 - vU p1 p2 a1 a2 * a1) (vU p1 p2 a1 a2) p2)
    (h : 2 * a2 * vU p0 p2 a0 a2 - vU p1 p2 a1 a2 * a1 ≠ 0 ∨ vU p1 p2 a1 a2 ≠ 0) (x : Int) (h1 : 2 * L ≤ x) (h2 : x ≤ 2 * L + 2) : Int.sign (qv p0 p1 p2 x (2 * NN)) = sgnAt p0 p1 p2 a0 a1 a2 w := by
  have k := b.near x h1 h2
  have a2p := b.o.pos
  have nE := no_sq b.o.nsq h
  have id1 : qv p0 p1 p2 x (2 * NN) * (2 * (a2 * a2)) =
      bigP (2 * a2 * vU p0 p2 a0 a2 - vU p1 p2 a1 a2 * a1) (sg w * vU p1 p2 a1 a2) (a1 * a1 - 4 * a0 * a2) p2 (sg w * (a2 * x + a1 * NN)) := by
    have s2 : sg w * sg w = 1 := by rcases b.hw with h | h <;> subst h <;> decide
    unfold bigP vU qv
    generalize sg w = z at *
    grind
  have ap : 0 < 2 * (a2 * a2) := by have := Int.mul_pos a2p a2p; omega
  have m' : Sml (2 * a2 * vU p0 p2 a0 a2 - vU p1 p2 a1 a2 * a1) (sg w * vU p1 p2 a1 a2) p2 := by
    obtain ⟨x1, x2, x3, x4, x5, x6⟩ := m
    rcases b.hw with h | h <;> subst h
    · have : sg 0 = -1 := by decide
      rw [this]
      exact ⟨x1, x2, by omega, by omega, x5, x6⟩
    · have : sg 1 = 1 := by decide
      rw [this]
      exact ⟨x1, x2, by omega, by omega, x5, x6⟩
  have vv : sg w * vU p1 p2 a1 a2 * (sg w * vU p1 p2 a1 a2) = vU p1 p2 a1 a2 * vU p1 p2 a1 a2 := by
    have s2 : sg w * sg w = 1 := by rcases b.hw with h | h <;> subst h <;> decide
    generalize sg w = z at *
    grind
  have bs := bigP_sign k m' (by rw [vv]; exact nE)
  rw [vv] at bs
  have h1 : Int.sign (qv p0 p1 p2 x (2 * NN) * (2 * (a2 * a2))) = Int.sign (qv p0 p1 p2 x (2 * NN)) := by
    rw [Int.sign_mul, Int.sign_eq_one_of_pos ap, Int.mul_one]
  rw [← h1, id1, bs]
  unfold sgnAt
  simp only
  have sv : Int.sign (sg w * vU p1 p2 a1 a2) = if w = 1 then Int.sign (vU p1 p2 a1 a2) else -Int.sign (vU p1 p2 a1 a2) := by
    rcases b.hw with h | h <;> subst h
    · have : sg 0 = -1 := by decide
      rw [this, if_neg (by decide), Int.neg_mul, Int.one_mul, Int.sign_neg]
    · have : sg 1 = 1 := by decide
      rw [this, if_pos rfl, Int.one_mul]
  rw [sv]
end LW

namespace LW
open PySem DL L2
theorem dvd_co {n m k : Int} (g : Int.gcd n m = 1) (h : m ∣ n * k) : m ∣ k := by
  have e := Int.gcd_mul_right n k m
  rw [g, Nat.one_mul] at e
  have d := Int.dvd_coe_gcd h (Int.dvd_mul_right m k)
  rw [e] at d
  exact Int.dvd_natAbs.mp d
theorem red_eq {n m n' m' : Int} (hm : 0 < m) (hm' : 0 < m') (g : Int.gcd n m = 1) (g' : Int.gcd n' m' = 1) (h : n * m' = n' * m) : n = n' ∧ m = m' := by
  have d1 : m ∣ m' := dvd_co g ⟨n', by rw [h, Int.mul_comm]⟩
  have d2 : m' ∣ m := dvd_co g' ⟨n, by rw [← h, Int.mul_comm]⟩
  have l1 := Int.le_of_dvd hm' d1
  have l2 := Int.le_of_dvd hm d2
  have e : m = m' := by omega
  subst e
  exact ⟨Int.eq_of_mul_eq_mul_right (by omega) h, rfl⟩
theorem dvd_co3 {a b c k m : Int} (g : Int.gcd (Int.gcd a b) c = 1) (h1 : m ∣ a * k) (h2 : m ∣ b * k) (h3 : m ∣ c * k) : m ∣ k := by
  have d1 := Int.dvd_coe_gcd h1 h2
  rw [Int.gcd_mul_right] at d1
  have d2 : m ∣ (Int.gcd a b : Int) * k := by
    have : ((Int.gcd a b * k.natAbs : Nat) : Int) = (Int.gcd a b : Int) * (k.natAbs : Int) := by simp
    rw [this] at d1
    have e : ((Int.gcd a b : Int) * (k.natAbs : Int)).natAbs = ((Int.gcd a b : Int) * k).natAbs := by simp [Int.natAbs_mul]
    exact Int.dvd_natAbs.mp (by rw [← e]; exact Int.dvd_natAbs.mpr d1)
  have d3 := Int.dvd_coe_gcd d2 h3
  rw [Int.gcd_mul_right, g, Nat.one_mul] at d3
  exact Int.dvd_natAbs.mp d3
theorem prim_eq {a0 a1 a2 b0 b1 b2 : Int} (pa : 0 < a2) (pb : 0 < b2) (ga : Int.gcd (Int.gcd a0 a1) a2 = 1) (gb : Int.gcd (Int.gcd b0 b1) b2 = 1) (h0 : a0 * b2 = b0 * a2) (h1 : a1 * b2 = b1 * a2) : a0 = b0 ∧ a1 = b1 ∧ a2 = b2 := by
  have d1 : a2 ∣ b2 := dvd_co3 ga ⟨b0, by rw [h0, Int.mul_comm]⟩ ⟨b1, by rw [h1, Int.mul_comm]⟩ (Int.dvd_mul_right _ _)
  have d2 : b2 ∣ a2 := dvd_co3 gb ⟨a0, by rw [← h0, Int.mul_comm]⟩ ⟨a1, by rw [← h1, Int.mul_comm]⟩ (Int.dvd_mul_right _ _)
  have l1 := Int.le_of_dvd pb d1
  have l2 := Int.le_of_dvd pa d2
  have e : a2 = b2 := by omega
  subst e
  exact ⟨Int.eq_of_mul_eq_mul_right (by omega) h0, Int.eq_of_mul_eq_mul_right (by omega) h1, rfl⟩
/-- a place and its key: the least of its span -/
inductive Pk : Dat → Int → Prop where
  | fr (n m : Int) : 0 < m → Bd 9 n → Bd 9 m → Int.gcd n m = 1 → Pk (fr2 n m) (n * NN / m)
  | rt (a0 a1 a2 w L : Int) : Bkt a0 a1 a2 w L → Bd 110 L → Int.gcd (Int.gcd a0 a1) a2 = 1 → Pk (rootD a0 a1 a2 w) L
theorem sh_root' : SeqAt.shaped (.str (Str.ofString "root")) = true := by decide +kernel
theorem shaped_root (a0 a1 a2 w : Int) : SeqAt.shaped (rootD a0 a1 a2 w) = true := by
  simp [SeqAt.shaped, PyData.canLay0, PyData.canLayAll0, PyData.depth, PyData.depthAll]
  try decide +kernel
theorem shaped_pl (a0 a1 a2 : Int) : SeqAt.shaped (pl a0 a1 a2) = true := by
  simp [SeqAt.shaped, PyData.canLay0, PyData.canLayAll0, PyData.depth, PyData.depthAll]
theorem eqv_pl (a0 a1 a2 b0 b1 b2 : Int) : PyData.eqv (pl a0 a1 a2) (pl b0 b1 b2) = (a0 == b0 && (a1 == b1 && a2 == b2)) := by simp [PyData.eqv, PyData.eqvAll]
theorem eqv_root (a0 a1 a2 w b0 b1 b2 v : Int) : PyData.eqv (rootD a0 a1 a2 w) (rootD b0 b1 b2 v) = ((a0 == b0 && (a1 == b1 && a2 == b2)) && w == v) := by simp [PyData.eqv, PyData.eqvAll]
theorem eqv_fr_root (n m b0 b1 b2 v : Int) : PyData.eqv (fr2 n m) (rootD b0 b1 b2 v) = false := by simp [PyData.eqv, PyData.eqvAll]
theorem eqv_root_fr (n m b0 b1 b2 v : Int) : PyData.eqv (rootD b0 b1 b2 v) (fr2 n m) = false := by simp [PyData.eqv, PyData.eqvAll]
/-! the four cases of two places -/
theorem compare_ok {a b c d : Int} (s : Sto) (ha : Bd 60 a) (hb : Bd 60 b) (hc : Bd 60 c) (hd : Bd 60 d) : g_compare [fr2 a b, fr2 c d] s = .ok (.int (Int.sign (a * d - c * b))) s := by
  unfold g_compare F_compare
  simp [ha.ok hd (by decide) (by decide), hc.ok hb (by decide) (by decide), sign_of_ok]
theorem fr_key {n m n' m' : Int} (hm : 0 < m) (hm' : 0 < m') (bm : Bd 9 m) (bm' : Bd 9 m') : Int.sign (n * m' - n' * m) = Int.sign (n * NN / m - n' * NN / m') := by
  have one : ∀ {n m n' m' : Int}, 0 < m → 0 < m' → Bd 9 m → Bd 9 m' → n * m' < n' * m → n * NN / m < n' * NN / m' := fun {n m n' m'} hm hm' bm bm' h => by
    have e1 := Int.ediv_mul_le (n * NN) (show m ≠ 0 by omega)
    have e2 := Int.lt_ediv_add_one_mul_self (n' * NN) hm'
    have pm := Int.mul_pos hm hm'
    have b := (bm.mul bm').hi
    apply Int.lt_of_not_ge
    intro z
    generalize n * NN / m = K at *
    generalize n' * NN / m' = K' at *
    -- K' ≤ K; K m ≤ n N; n' N < (K' + 1) m'
    have f1 := Int.mul_le_mul_of_nonneg_right e1 (show 0 ≤ m' by omega)
    have f2 := Int.mul_lt_mul_of_pos_right e2 hm
    have f3 := Int.mul_le_mul_of_nonneg_right (show K' + 1 ≤ K + 1 by omega) (show 0 ≤ m * m' by omega)
    have f4 := Int.mul_le_mul_of_nonneg_right (show n * m' + 1 ≤ n' * m by omega) (show (0 : Int) ≤ NN by decide)
    have g1 : K * m * m' = K * (m * m') := by grind
    have g2 : n * NN * m' = n * m' * NN := by grind
    have g3 : n' * NN * m = n' * m * NN := by grind
    have g4 : (K' + 1) * m' * m = (K' + 1) * (m * m') := by grind
    have g5 : (K + 1) * (m * m') = K * (m * m') + m * m' := by grind
    have g6 : (n * m' + 1) * NN = n * m' * NN + NN := by grind
    have n1 : (NN : Int) > 2 ^ (9 + 9) := by decide
    omega
  rcases Int.lt_trichotomy (n * m') (n' * m) with h | h | h
  · have := one hm hm' bm bm' h
    rw [Int.sign_eq_neg_one_of_neg (by omega), Int.sign_eq_neg_one_of_neg (by omega)]
  · have e : n * NN / m = n' * NN / m' := by
      have h1 : n * NN / m = n * NN * m' / (m * m') := by rw [Int.mul_ediv_mul_of_pos_left _ _ hm']
      have h2 : n' * NN / m' = n' * NN * m / (m' * m) := by rw [Int.mul_ediv_mul_of_pos_left _ _ hm]
      rw [h1, h2, Int.mul_comm m' m]
      congr 1
      have : n * NN * m' = n * m' * NN := by grind
      rw [this, h]
      grind
    rw [h, e, Int.sub_self, Int.sub_self]
  · have := one hm' hm bm' bm h
    rw [Int.sign_eq_one_of_pos (by omega), Int.sign_eq_one_of_pos (by omega)]
theorem lin_small {p0 p1 a0 a1 a2 : Int} (b0 : Bd 9 p0) (b1 : Bd 9 p1) (o : Own a0 a1 a2) : Sml (2 * a2 * vU p0 0 a0 a2 - vU p1 0 a1 a2 * a1) (vU p1 0 a1 a2) 0 := by
  have ba := o.b7
  have e0 : vU p0 0 a0 a2 = p0 * a2 := by unfold vU; omega
  have e1 : vU p1 0 a1 a2 = p1 * a2 := by unfold vU; omega
  rw [e0, e1]
  have u1 := b0.mul ba.c
  have v1 := b1.mul ba.c
  have c1 := ba.c.mul u1
  have c2 := v1.mul ba.b
  have e2 : 2 * a2 * (p0 * a2) = 2 * (a2 * (p0 * a2)) := by grind
  rw [e2]
  have := c1.lo; have := c1.hi; have := c2.lo; have := c2.hi; have := v1.lo; have := v1.hi
  exact ⟨by omega, by omega, by omega, by omega, by decide, by decide⟩
theorem lin_ne {p0 p1 a0 a1 a2 : Int} (ha : 0 < a2) (h : p1 ≠ 0) : 2 * a2 * vU p0 0 a0 a2 - vU p1 0 a1 a2 * a1 ≠ 0 ∨ vU p1 0 a1 a2 ≠ 0 := by
  refine .inr ?_
  have e1 : vU p1 0 a1 a2 = p1 * a2 := by unfold vU; omega
  rw [e1]
  intro z
  rcases Int.mul_eq_zero.mp z with q | q <;> omega
theorem q_ne {a0 a1 a2 n d : Int} (o : Own a0 a1 a2) (hd : d ≠ 0) : qv a0 a1 a2 n d ≠ 0 := fun z => by
  have e := qy a0 a1 a2 n d
  rw [z, Int.zero_mul] at e
  have := no_sq (A := yv a1 a2 n d) (V := d) o.nsq (.inr hd)
  have c : d * d * (a1 * a1 - 4 * a0 * a2) = (a1 * a1 - 4 * a0 * a2) * (d * d) := Int.mul_comm _ _
  omega
/-- a root and a fraction -/
theorem root_fr_key {a0 a1 a2 w L n m : Int} (b : Bkt a0 a1 a2 w L) (hm : 0 < m) (bn : Bd 9 n) (bm : Bd 9 m) : (L < n * NN / m ∧ Rt a0 a1 a2 w n m) ∨ (n * NN / m < L ∧ ¬ Rt a0 a1 a2 w n m) := by
  have a2p := b.o.pos
  have t1 := tst_rt'.mp b.t1
  have t2 := tst_rt.mp b.t2
  have e1 := Int.ediv_mul_le (n * NN) (show m ≠ 0 by omega)
  have e2 := Int.lt_ediv_add_one_mul_self (n * NN) hm
  have key : L ≠ n * NN / m := fun z => by
    rw [← z] at e1 e2
    have sm := lin_small (p0 := -n) (p1 := m) (bn.neg) bm b.o
    have ne := lin_ne (p0 := -n) (p1 := m) (a0 := a0) (a1 := a1) a2p (by omega)
    have s1 := b.sgn sm ne (2 * L) (by omega) (by omega)
    have s2 := b.sgn sm ne (2 * L + 2) (by omega) (by omega)
    have x1 : qv (-n) m 0 (2 * L) (2 * NN) = (L * m - n * NN) * (4 * NN) := by unfold qv; grind
    have x2 : qv (-n) m 0 (2 * L + 2) (2 * NN) = ((L + 1) * m - n * NN) * (4 * NN) := by unfold qv; grind
    rw [x1, Int.sign_mul, Int.sign_eq_one_of_pos (show (0 : Int) < 4 * NN by decide), Int.mul_one] at s1
    rw [x2, Int.sign_mul, Int.sign_eq_one_of_pos (show (0 : Int) < 4 * NN by decide), Int.mul_one] at s2
    rw [Int.sign_eq_one_of_pos (show 0 < (L + 1) * m - n * NN by omega)] at s2
    rw [← s2] at s1
    have := Int.sign_eq_one_iff_pos.mp s1
    omega
  rcases Int.lt_or_gt_of_ne key with h | h
  · refine .inl ⟨h, rt_mono a2p n_pos hm ?_ t2⟩
    have := Int.mul_le_mul_of_nonneg_right (show L + 1 ≤ n * NN / m by omega) (show 0 ≤ m by omega)
    omega
  · refine .inr ⟨h, fun r => t1 (rt_mono a2p hm n_pos ?_ r)⟩
    have := Int.mul_le_mul_of_nonneg_right (show n * NN / m + 1 ≤ L by omega) (show 0 ≤ m by omega)
    omega
/-- two roots of unlike polynomials: the one's middle tells -/
theorem two_keys {a0 a1 a2 w L b0 b1 b2 v M : Int} (a : Bkt a0 a1 a2 w L) (b : Bkt b0 b1 b2 v M) (hn : ¬ (a0 * b2 = b0 * a2 ∧ a1 * b2 = b1 * a2)) : (L < M ∧ ¬ Rt b0 b1 b2 v (2 * L + 1) (2 * NN)) ∨ (M < L ∧ Rt b0 b1 b2 v (2 * L + 1) (2 * NN)) := by
  have a2p := a.o.pos
  have b2p := b.o.pos
  have t1 := tst_rt'.mp b.t1
  have t2 := tst_rt.mp b.t2
  have key : L ≠ M := fun z => by
    subst z
    obtain ⟨sm, _⟩ := sgn_small a.o.b7 b.o
    have ne : 2 * b2 * vU a0 a2 b0 b2 - vU a1 a2 b1 b2 * b1 ≠ 0 ∨ vU a1 a2 b1 b2 ≠ 0 := by
      by_cases hV : vU a1 a2 b1 b2 = 0
      · refine .inl fun h => hn ?_
        rw [hV, Int.zero_mul, Int.sub_zero] at h
        have hU : vU a0 a2 b0 b2 = 0 := by
          rcases Int.mul_eq_zero.mp h with q | q
          · omega
          · exact q
        unfold vU at hU hV
        have c1 := Int.mul_comm a2 b0
        have c2 := Int.mul_comm a2 b1
        omega
      · exact .inr hV
    have s1 := b.sgn sm ne (2 * L) (by omega) (by omega)
    have s2 := b.sgn sm ne (2 * L + 2) (by omega) (by omega)
    have x1 : qv a0 a1 a2 (2 * L) (2 * NN) = qv a0 a1 a2 L NN * 4 := by unfold qv; grind
    have x2 : qv a0 a1 a2 (2 * L + 2) (2 * NN) = qv a0 a1 a2 (L + 1) NN * 4 := by unfold qv; grind
    rw [x1, Int.sign_mul, Int.sign_eq_one_of_pos (show (0 : Int) < 4 by decide), Int.mul_one] at s1
    rw [x2, Int.sign_mul, Int.sign_eq_one_of_pos (show (0 : Int) < 4 by decide), Int.mul_one] at s2
    have nz := sgn_ne (w := v) b.o ne
    rcases a.ends with ⟨_, _, q1, q2⟩ | ⟨_, _, q1, q2⟩
    · rw [Int.sign_eq_neg_one_of_neg q1] at s1
      have := Int.sign_nonneg_iff.mpr q2
      omega
    · rw [Int.sign_eq_neg_one_of_neg q2] at s2
      have := Int.sign_nonneg_iff.mpr q1
      omega
  have n2 : (0 : Int) < 2 * NN := by decide
  rcases Int.lt_or_gt_of_ne key with h | h
  · refine .inl ⟨h, fun r => t1 (rt_mono b2p n2 n_pos ?_ r)⟩
    have := Int.mul_le_mul_of_nonneg_right (show 2 * L + 1 ≤ M * 2 by omega) (show (0 : Int) ≤ NN by decide)
    have e : M * (2 * NN) = M * 2 * NN := by grind
    omega
  · refine .inr ⟨h, rt_mono b2p n_pos n2 ?_ t2⟩
    have := Int.mul_le_mul_of_nonneg_right (show (M + 1) * 2 ≤ 2 * L + 1 by omega) (show (0 : Int) ≤ NN by decide)
    have e : (M + 1) * (2 * NN) = (M + 1) * 2 * NN := by grind
    omega
end LW

namespace LW
open PySem DL L2
theorem eqv_is (i : Int) (x : Str) : PyData.eqv (.int i) (.str x) = false := by simp [PyData.eqv]
theorem eqv_ss (x : Str) : PyData.eqv (.str x) (.str x) = true := by simp [PyData.eqv]
theorem sign_lt {i j : Int} (h : i < j) : Int.sign (i - j) = -1 := Int.sign_eq_neg_one_of_neg (by omega)
theorem sign_gt {i j : Int} (h : j < i) : Int.sign (i - j) = 1 := Int.sign_eq_one_of_pos (by omega)
theorem y_ne {a0 a1 a2 n d : Int} (o : Own a0 a1 a2) (hd : 0 < d) (h : 0 ≤ qv a0 a1 a2 n d) : yv a1 a2 n d ≠ 0 := fun z => by
  have q := q_neg (a0 := a0) (a1 := a1) (n := n) (d := d) o.pos
  rw [z, Int.zero_mul] at q
  have := Int.mul_pos o.dpos (Int.mul_pos hd hd)
  have := q.mpr this
  omega
/-- where a fraction lies, as the program tells it -/
theorem side_ok {a0 a1 a2 w n m : Int} (s : Sto) (o : Own a0 a1 a2) (hw : w = 0 ∨ w = 1) (hm : 0 < m) (bn : Bd 9 n) (bm : Bd 9 m) :
    (Rt a0 a1 a2 w n m → g_root_side [rootD a0 a1 a2 w, fr2 n m] s = .ok (.int (-1)) s) ∧ (¬ Rt a0 a1 a2 w n m → g_root_side [rootD a0 a1 a2 w, fr2 n m] s = .ok (.int 1) s) := by
  have e := root_side_ok (w := w) s o.b (bn.mono (show 9 ≤ 60 by decide)) (bm.mono (show 9 ≤ 60 by decide))
  rw [e]
  have q0 := q_ne (n := n) o (show m ≠ 0 by omega)
  have eq : a0 * m * m + a1 * n * m + a2 * n * n = qv a0 a1 a2 n m := rfl
  rw [eq]
  have ey : -a1 * m - 2 * a2 * n = -yv a1 a2 n m := by unfold yv; grind
  rw [ey]
  have yn := y_ne (n := n) o hm
  unfold Rt
  generalize qv a0 a1 a2 n m = Q at *
  generalize yv a1 a2 n m = Y at *
  by_cases hq : Q < 0
  · rw [if_pos hq]
    rcases hw with h | h
    · subst h
      exact ⟨fun _ => by simp, fun r => absurd (.inl ⟨rfl, .inr hq⟩) r⟩
    · subst h
      exact ⟨fun r => by omega, fun _ => by simp⟩
  · rw [if_neg hq]
    have yn' := yn (by omega)
    by_cases hy : 0 < Y
    · rw [Int.sign_eq_neg_one_of_neg (show -Y < 0 by omega)]
      exact ⟨fun _ => rfl, fun r => absurd (by omega) r⟩
    · rw [Int.sign_eq_one_of_pos (show 0 < -Y by omega)]
      exact ⟨fun r => by omega, fun _ => rfl⟩
theorem span_is {a0 a1 a2 w L : Int} (b : Bkt a0 a1 a2 w L) (s : Sto) : g__law_span [rootD a0 a1 a2 w] s = .ok (.tuple [.int L, .int (L + 1)]) s := by
  obtain ⟨M, _, h1, h2, e⟩ := span_ok b.o b.hw s
  rw [e, tst_unique b.o.pos b.t1 b.t2 h1 h2]
theorem span_fr {n m : Int} (s : Sto) (bn : Bd 9 n) (hm : 0 < m) (bm : Bd 9 m) : g__law_span [fr2 n m] s = .ok (.tuple [.int (n * NN / m), .int (n * NN / m + 1)]) s := by
  have q := bn.ok bNN (by decide) (by decide)
  have d : cDiv (n * NN) m = true := div_okW hm (by have := bm.hi; omega)
  unfold g__law_span F__law_span
  simp [gNe, sh_root', eqv_is, eqv_ss, pow90, q, d]
theorem key_root {a0 a1 a2 : Int} {L M : Int} (a : Bkt a0 a1 a2 0 L) (b : Bkt a0 a1 a2 1 M) : L < M := by
  rcases a.ends with ⟨h, _⟩ | ⟨_, y1, _, _⟩
  · omega
  · rcases b.ends with ⟨_, y2, _, _⟩ | ⟨h, _⟩
    · apply Int.lt_of_not_ge
      intro h
      have := Int.mul_le_mul_of_nonneg_left (show M ≤ L + 1 by omega) (show 0 ≤ 2 * a2 by have := a.o.pos; omega)
      unfold yv at y1 y2
      omega
    · omega
theorem order_ok {p q : Dat} {L M : Int} (s : Sto) (hp : Pk p L) (hq : Pk q M) :
    g_order_of [p, q] s = .ok (.int (Int.sign (L - M))) s ∧ g__law_order [p, q] s = .ok (.int (Int.sign (L - M))) s ∧ (L = M → p = q) := by
  cases hp with
  | fr n m hm bn bm g =>
    cases hq with
    | fr n' m' hm' bn' bm' g' =>
      have fk := fr_key (n := n) (n' := n') hm hm' bm bm'
      have c1 := compare_ok s (bn.mono (show 9 ≤ 60 by decide)) (bm.mono (show 9 ≤ 60 by decide)) (bn'.mono (show 9 ≤ 60 by decide)) (bm'.mono (show 9 ≤ 60 by decide))
      have inj : n * NN / m = n' * NN / m' → fr2 n m = fr2 n' m' := fun h => by
        rw [h, Int.sub_self, Int.sign_zero] at fk
        have := Int.sign_eq_zero_iff_zero.mp fk
        obtain ⟨e1, e2⟩ := red_eq hm hm' g g' (by omega)
        rw [e1, e2]
      refine ⟨?_, ?_, inj⟩
      · unfold g_order_of F_order_of
        simp [gNe, sh_root', eqv_is, eqv_ss, c1, fk]
      · unfold g__law_order F__law_order
        by_cases h : n = n' ∧ m = m'
        · obtain ⟨rfl, rfl⟩ := h
          simp [gEq, shaped_fr2, eqv_fr2]
        · have h2 : n = n' → ¬ m = m' := fun a b => h ⟨a, b⟩
          have q1 := bn.ok bm' (by decide) (by decide)
          have q2 := bn'.ok bm (by decide) (by decide)
          have ls := lsign_ok (n * m' - n' * m) s
          rw [fk] at ls
          by_cases e : n = n'
          · have e2 := h2 e
            subst e
            simp [gEq, gNe, shaped_fr2, eqv_fr2, e2, sh_root', eqv_is, eqv_ss, q1, q2, ls]
          · simp [gEq, gNe, shaped_fr2, eqv_fr2, e, sh_root', eqv_is, eqv_ss, q1, q2, ls]
    | rt b0 b1 b2 v M b bM gb =>
      have rk := root_fr_key b hm bn bm
      obtain ⟨so1, so2⟩ := side_ok (w := v) s b.o b.hw hm bn bm
      have l1 := span_fr s bn hm bm
      have l2 := span_is b s
      refine ⟨?_, ?_, fun h => by omega⟩
      · unfold g_order_of F_order_of
        rcases rk with ⟨h, r⟩ | ⟨h, r⟩
        · rw [sign_gt h]
          simp [gNe, gEq, sh_root', eqv_is, eqv_ss, shaped_fr2, shaped_root, eqv_fr_root, so1 r]
        · rw [sign_lt h]
          simp [gNe, gEq, sh_root', eqv_is, eqv_ss, shaped_fr2, shaped_root, eqv_fr_root, so2 r]
      · unfold g__law_order F__law_order
        rcases rk with ⟨h, r⟩ | ⟨h, r⟩
        · rw [sign_gt h]
          simp [gNe, gEq, sh_root', eqv_is, eqv_ss, shaped_fr2, shaped_root, eqv_fr_root, l1, l2, show ¬ n * NN / m + (n * NN / m + 1) < M + (M + 1) by omega]
        · rw [sign_lt h]
          simp [gNe, gEq, sh_root', eqv_is, eqv_ss, shaped_fr2, shaped_root, eqv_fr_root, l1, l2, show n * NN / m + (n * NN / m + 1) < M + (M + 1) by omega]
  | rt a0 a1 a2 w L a aL ga =>
    cases hq with
    | fr n m hm bn bm g =>
      have rk := root_fr_key a hm bn bm
      obtain ⟨so1, so2⟩ := side_ok (w := w) s a.o a.hw hm bn bm
      have l1 := span_fr s bn hm bm
      have l2 := span_is a s
      refine ⟨?_, ?_, fun h => by omega⟩
      · unfold g_order_of F_order_of
        rcases rk with ⟨h, r⟩ | ⟨h, r⟩
        · rw [sign_lt h]
          simp [gNe, gEq, sh_root', eqv_is, eqv_ss, shaped_fr2, shaped_root, eqv_root_fr, so1 r]
        · rw [sign_gt h]
          simp [gNe, gEq, sh_root', eqv_is, eqv_ss, shaped_fr2, shaped_root, eqv_root_fr, so2 r]
      · unfold g__law_order F__law_order
        rcases rk with ⟨h, r⟩ | ⟨h, r⟩
        · rw [sign_lt h]
          simp [gNe, gEq, sh_root', eqv_is, eqv_ss, shaped_fr2, shaped_root, eqv_root_fr, l1, l2, show L + (L + 1) < n * NN / m + (n * NN / m + 1) by omega]
        · rw [sign_gt h]
          simp [gNe, gEq, sh_root', eqv_is, eqv_ss, shaped_fr2, shaped_root, eqv_root_fr, l1, l2, show ¬ L + (L + 1) < n * NN / m + (n * NN / m + 1) by omega]
    | rt b0 b1 b2 v M b bM gb =>
      have l1 := span_is a s
      have l2 := span_is b s
      by_cases same : a0 = b0 ∧ a1 = b1 ∧ a2 = b2
      · obtain ⟨rfl, rfl, rfl⟩ := same
        by_cases hwv : w = v
        · subst hwv
          have : L = M := tst_unique a.o.pos a.t1 a.t2 b.t1 b.t2
          subst this
          refine ⟨?_, ?_, fun _ => rfl⟩
          · unfold g_order_of F_order_of
            simp [gNe, gEq, sh_root', eqv_is, eqv_ss, shaped_root, eqv_root]
          · unfold g__law_order F__law_order
            simp [gNe, gEq, sh_root', eqv_is, eqv_ss, shaped_root, eqv_root]
        · have hd : (w = 0 ∧ v = 1 ∧ L < M) ∨ (w = 1 ∧ v = 0 ∧ M < L) := by
            rcases a.hw with h | h <;> rcases b.hw with g | g
            · omega
            · subst h g; exact .inl ⟨rfl, rfl, key_root a b⟩
            · subst h g; exact .inr ⟨rfl, rfl, key_root b a⟩
            · omega
          refine ⟨?_, ?_, fun h => by omega⟩
          · unfold g_order_of F_order_of
            rcases hd with ⟨rfl, rfl, h⟩ | ⟨rfl, rfl, h⟩
            · rw [sign_lt h]
              simp [gNe, gEq, sh_root', eqv_is, eqv_ss, shaped_root, shaped_pl, eqv_root, eqv_pl, sign_of_ok]
            · rw [sign_gt h]
              simp [gNe, gEq, sh_root', eqv_is, eqv_ss, shaped_root, shaped_pl, eqv_root, eqv_pl, sign_of_ok]
          · unfold g__law_order F__law_order
            rcases hd with ⟨rfl, rfl, h⟩ | ⟨rfl, rfl, h⟩
            · rw [sign_lt h]
              simp [gNe, gEq, sh_root', eqv_is, eqv_ss, shaped_root, eqv_root, l1, l2, show L + (L + 1) < M + (M + 1) by omega]
            · rw [sign_gt h]
              simp [gNe, gEq, sh_root', eqv_is, eqv_ss, shaped_root, eqv_root, l1, l2, show ¬ L + (L + 1) < M + (M + 1) by omega]
      · have hn : ¬ (a0 * b2 = b0 * a2 ∧ a1 * b2 = b1 * a2) := fun h => same (prim_eq a.o.pos b.o.pos ga gb h.1 h.2)
        have tk := two_keys a b hn
        have ne : (a0 == b0 && (a1 == b1 && a2 == b2)) = false := by
          by_cases h : (a0 == b0 && (a1 == b1 && a2 == b2)) = true
          · simp at h; exact absurd h same
          · simpa using h
        have ep : PyData.eqv (pl a0 a1 a2) (pl b0 b1 b2) = false := by rw [eqv_pl, ne]
        have er : PyData.eqv (rootD a0 a1 a2 w) (rootD b0 b1 b2 v) = false := by rw [eqv_root, ne]; rfl
        refine ⟨?_, ?_, fun h => by omega⟩
        · -- the sign of b's polynomial, and of its slope, at the root
          have s1 := sign_on_root s b.o.b a.o a.hw
          have bl : Pb 12 b1 (2 * b2) 0 := ⟨b.o.b.b, ⟨by have := b.o.b7.c.lo; omega, by have := b.o.b7.c.hi; omega⟩, ⟨by decide, by decide⟩⟩
          have s2 := sign_on_root s bl a.o a.hw
          obtain ⟨sm, _⟩ := sgn_small b.o.b7 a.o
          have nz : 2 * a2 * vU b0 b2 a0 a2 - vU b1 b2 a1 a2 * a1 ≠ 0 ∨ vU b1 b2 a1 a2 ≠ 0 := by
            by_cases hV : vU b1 b2 a1 a2 = 0
            · refine .inl fun h => hn ?_
              rw [hV, Int.zero_mul, Int.sub_zero] at h
              have hU : vU b0 b2 a0 a2 = 0 := by
                have := a.o.pos
                rcases Int.mul_eq_zero.mp h with q | q
                · omega
                · exact q
              unfold vU at hU hV
              have c1 := Int.mul_comm b2 a0
              have c2 := Int.mul_comm b2 a1
              omega
            · exact .inr hV
          have n1 := a.sgn sm nz (2 * L + 1) (by omega) (by omega)
          have b9 : Bd 9 b1 := b.o.b7.b.mono (by decide)
          have b9' : Bd 9 (2 * b2) := ⟨by have := b.o.b7.c.lo; omega, by have := b.o.b7.c.hi; omega⟩
          have n2 := a.sgn (lin_small b9 b9' a.o) (lin_ne a.o.pos (by have := b.o.pos; omega)) (2 * L + 1) (by omega) (by omega)
          have ey : qv b1 (2 * b2) 0 (2 * L + 1) (2 * NN) = yv b1 b2 (2 * L + 1) (2 * NN) * (2 * NN) := by unfold qv yv; grind
          rw [ey, Int.sign_mul, Int.sign_eq_one_of_pos (show (0 : Int) < 2 * NN by decide), Int.mul_one] at n2
          rw [← n1] at s1
          rw [← n2] at s2
          have c2 : cMul 2 b2 = true := (show Bd 2 2 from ⟨by decide, by decide⟩).ok b.o.b.c (by decide) (by decide)
          have q0 := q_ne (n := 2 * L + 1) b.o (show 2 * NN ≠ 0 by decide)
          have yn := y_ne (n := 2 * L + 1) b.o (show (0 : Int) < 2 * NN by decide)
          unfold Rt at tk
          generalize qv b0 b1 b2 (2 * L + 1) (2 * NN) = Q at *
          generalize yv b1 b2 (2 * L + 1) (2 * NN) = Y at *
          unfold g_order_of F_order_of
          by_cases hQ : Q < 0
          · rw [Int.sign_eq_neg_one_of_neg hQ] at s1
            rcases b.hw with g | g
            · have h : M < L := by omega
              rw [sign_gt h]
              subst g
              simp [gNe, gEq, sh_root', eqv_is, eqv_ss, shaped_root, shaped_pl, er, ep, s1]
            · have h : L < M := by omega
              rw [sign_lt h]
              subst g
              simp [gNe, gEq, sh_root', eqv_is, eqv_ss, shaped_root, shaped_pl, er, ep, s1]
          · have yn' := yn (by omega)
            rw [Int.sign_eq_one_of_pos (show 0 < Q by omega)] at s1
            by_cases hY : 0 < Y
            · have h : M < L := by have := b.hw; omega
              rw [Int.sign_eq_one_of_pos hY] at s2
              rw [sign_gt h]
              simp [gNe, gEq, sh_root', eqv_is, eqv_ss, shaped_root, shaped_pl, er, ep, s1, s2, c2]
            · have h : L < M := by have := b.hw; omega
              rw [Int.sign_eq_neg_one_of_neg (show Y < 0 by omega)] at s2
              rw [sign_lt h]
              simp [gNe, gEq, sh_root', eqv_is, eqv_ss, shaped_root, shaped_pl, er, ep, s1, s2, c2]
        · unfold g__law_order F__law_order
          rcases tk with ⟨h, _⟩ | ⟨h, _⟩
          · rw [sign_lt h]
            simp [gNe, gEq, sh_root', eqv_is, eqv_ss, shaped_root, er, l1, l2, show L + (L + 1) < M + (M + 1) by omega]
          · rw [sign_gt h]
            simp [gNe, gEq, sh_root', eqv_is, eqv_ss, shaped_root, er, l1, l2, show ¬ L + (L + 1) < M + (M + 1) by omega]
end LW

namespace LW
open PySem DL L2
theorem fr_red (n : Int) {d : Int} (hd : d ≠ 0) : Int.gcd (fn n d) (fd n d) = 1 := by
  have hg : 0 < Int.gcd n d := Int.gcd_pos_of_ne_zero_right n hd
  unfold fn fd
  by_cases h : d < 0
  · rw [if_pos h, if_pos h]
    have e : Int.gcd n d = Int.gcd (-n) (-d) := by rw [Int.gcd_neg, Int.neg_gcd]
    rw [e]
    exact Int.gcd_ediv_gcd_ediv_gcd (by rw [← e]; exact hg)
  · rw [if_neg h, if_neg h]
    exact Int.gcd_ediv_gcd_ediv_gcd hg
/-- the places of a polynomial, with their keys -/
structure PR (s : Sto) (d : Dat) (K : List (Dat × Int)) : Prop where
  r : g_roots [d] s = .ok (.list (K.map Prod.fst)) s
  l : g__law_roots [d] s = .ok (.list (K.map Prod.fst)) s
  k : ∀ x, x ∈ K → Pk x.1 x.2
  n : K.length ≤ 2
theorem pk_fr {x d : Int} (hd : d ≠ 0) (bx : Bd 9 x) (bd : Bd 9 d) : Pk (fr2 (fn x d) (fd x d)) (fn x d * NN / fd x d) := by
  have f := fr_is x hd
  exact .fr _ _ f.pos (f.bp bx) (f.bq bd) (fr_red x hd)
theorem root_bd {c0 c1 c2 r : Int} (b : Pb 7 c0 c1 c2) (hr : 0 ≤ r) (h : r * r = c1 * c1 - 4 * c0 * c2) : r ≤ 300 := by
  apply Int.le_of_not_gt
  intro hn
  have g := Int.mul_le_mul (show 301 ≤ r by omega) (show 301 ≤ r by omega) (by decide) hr
  have q1 := mbd (x := c1) (y := c1) (a := 127) (b := 127) (by have := b.b.lo; omega) (by have := b.b.hi; omega) (by have := b.b.lo; omega) (by have := b.b.hi; omega)
  have q2 := mbd (x := c0) (y := c2) (a := 127) (b := 127) (by have := b.a.lo; omega) (by have := b.a.hi; omega) (by have := b.c.lo; omega) (by have := b.c.hi; omega)
  have e : 4 * c0 * c2 = 4 * (c0 * c2) := by grind
  omega
theorem pk_root {a0 a1 a2 w : Int} (o : Own a0 a1 a2) (hw : w = 0 ∨ w = 1) (g : Int.gcd (Int.gcd a0 a1) a2 = 1) : ∃ L, Pk (rootD a0 a1 a2 w) L := by
  obtain ⟨L, bL, t1, t2, _⟩ := span_ok o hw []
  exact ⟨L, .rt _ _ _ _ _ ⟨o, hw, t1, t2⟩ bL g⟩
theorem one_pk {p : Dat} {k : Int} (h : Pk p k) : ∃ K : List (Dat × Int), K.map Prod.fst = [p] ∧ (∀ x, x ∈ K → Pk x.1 x.2) ∧ K.length ≤ 2 := by
  refine ⟨[(p, k)], rfl, fun x hx => ?_, by simp⟩
  rw [List.mem_singleton.mp hx]
  exact h
theorem two_pk {p q : Dat} {k l : Int} (h : Pk p k) (h' : Pk q l) : ∃ K : List (Dat × Int), K.map Prod.fst = [p, q] ∧ (∀ x, x ∈ K → Pk x.1 x.2) ∧ K.length ≤ 2 := by
  refine ⟨[(p, k), (q, l)], rfl, fun x hx => ?_, by simp⟩
  rcases List.mem_cons.mp hx with g | g
  · rw [g]; exact h
  · rw [List.mem_singleton.mp g]; exact h'
theorem found_pk {c0 c1 c2 : Int} {L : List Dat} (b : Pb 7 c0 c1 c2) (pr : Prim3 c0 c1 c2) (h : Found c0 c1 c2 L) : ∃ K : List (Dat × Int), K.map Prod.fst = L ∧ (∀ x, x ∈ K → Pk x.1 x.2) ∧ K.length ≤ 2 := by
  have b22 : c2 ≠ 0 → Bd 9 (2 * c2) ∧ 2 * c2 ≠ 0 := fun h => ⟨⟨by have := b.c.lo; omega, by have := b.c.hi; omega⟩, by omega⟩
  cases h with
  | none0 h2 h1 => exact ⟨[], rfl, by simp, by simp⟩
  | none2 h2 h1 => exact ⟨[], rfl, by simp, by simp⟩
  | one0 h2 h1 =>
    exact one_pk (pk_fr h1 (b.a.neg.mono (by decide)) (b.b.mono (by decide)))
  | one2 r h2 hD hr =>
    subst hr
    exact one_pk (pk_fr (b22 h2).2 ⟨by have := b.b.hi; omega, by have := b.b.lo; omega⟩ (b22 h2).1)
  | two2 r x y h2 hs hr hxy =>
    have br := root_bd b (by omega) hs
    have bx : Bd 9 x ∧ Bd 9 y := by
      have := b.b.hi; have := b.b.lo
      rcases hxy with h | h <;> exact ⟨⟨by omega, by omega⟩, ⟨by omega, by omega⟩⟩
    exact two_pk (pk_fr (b22 h2).2 bx.1 (b22 h2).1) (pk_fr (b22 h2).2 bx.2 (b22 h2).1)
  | irr e h2 he hp hD hn =>
    have ee : e * e = 1 := by rcases he with h | h <;> subst h <;> rfl
    have dd : e * c1 * (e * c1) - 4 * (e * c0) * (e * c2) = c1 * c1 - 4 * c0 * c2 := by
      have : e * c1 * (e * c1) - 4 * (e * c0) * (e * c2) = (e * e) * (c1 * c1 - 4 * c0 * c2) := by grind
      rw [this, ee, Int.one_mul]
    have bb : Pb 7 (e * c0) (e * c1) (e * c2) := by
      have := b.a.lo; have := b.a.hi; have := b.b.lo; have := b.b.hi; have := b.c.lo; have := b.c.hi
      rcases he with h | h <;> subst h <;> exact ⟨⟨by omega, by omega⟩, ⟨by omega, by omega⟩, ⟨by omega, by omega⟩⟩
    have o : Own (e * c0) (e * c1) (e * c2) := ⟨bb, hp, by rw [dd]; exact hD, by rw [dd]; exact hn⟩
    have g : Int.gcd (Int.gcd (e * c0) (e * c1)) (e * c2) = 1 := by
      rcases pr with p | ⟨_, _, z⟩
      · rcases he with h | h
        · subst h
          simpa using p
        · subst h
          have : Int.gcd (-1 * c0) (-1 * c1) = Int.gcd c0 c1 := by rw [Int.neg_mul, Int.neg_mul, Int.one_mul, Int.one_mul, Int.gcd_neg, Int.neg_gcd]
          rw [this, Int.neg_mul, Int.one_mul, Int.gcd_neg]
          exact p
      · exact absurd z h2
    obtain ⟨k0, p0⟩ := pk_root o (.inl rfl) g
    obtain ⟨k1, p1⟩ := pk_root o (.inr rfl) g
    exact two_pk p0 p1
theorem roots_pk {a b c : Int} (bp : Pb 7 a b c) (pr : Prim3 a b c) (s : Sto) : ∃ K, PR s (pl a b c) K := by
  obtain ⟨L, hL, e1, e2⟩ := both_roots_ok s (bp.mono (show 7 ≤ 20 by decide))
  obtain ⟨K, hK, h1, h2⟩ := found_pk bp pr hL
  exact ⟨K, by rw [hK]; exact e1, by rw [hK]; exact e2, h1, h2⟩
/-! which are places -/
def inK (k : Int) : Bool := decide (0 < k) && decide (k < NN)
theorem pk_start : Pk (fr2 0 1) 0 := .fr 0 1 (by decide) ⟨by decide, by decide⟩ ⟨by decide, by decide⟩ (by decide)
theorem pk_end : Pk (fr2 1 1) NN := by
  have := Pk.fr 1 1 (by decide) ⟨by decide, by decide⟩ ⟨by decide, by decide⟩ (by decide)
  rw [show (1 : Int) * NN / 1 = NN by decide] at this
  exact this
theorem sgn_neg (i j : Int) : decide (Int.sign (i - j) < 0) = decide (i < j) := by
  rw [Bool.eq_iff_iff]
  simp only [decide_eq_true_eq, Int.sign_neg_iff]
  omega
theorem in_core {k : Int} : (Int.sign (0 - k) < 0 ↔ 0 < k) ∧ (Int.sign (k - NN) < 0 ↔ k < NN) := by
  rw [Int.sign_neg_iff, Int.sign_neg_iff]
  omega
theorem law_in_ok {p : Dat} {k : Int} (s : Sto) (h : Pk p k) : g__law_in [p] s = .ok (.bool (inK k)) s := by
  have e1 := (order_ok s pk_start h).2.1
  have e2 := (order_ok s h pk_end).2.1
  obtain ⟨c1, c2⟩ := in_core (k := k)
  unfold g__law_in F__law_in inK
  generalize Int.sign (0 - k) = i at *
  generalize Int.sign (k - NN) = j at *
  by_cases a : i < 0
  · have a' := c1.mp a
    by_cases b : j < 0
    · have b' := c2.mp b
      simp [e1, e2, a, b, a', b']
    · have b' : ¬ k < NN := fun z => b (c2.mpr z)
      simp [-Int.not_lt, e1, e2, a, b, a', b']
  · have a' : ¬ 0 < k := fun z => a (c1.mpr z)
    simp [-Int.not_lt, e1, a, a']
theorem prog_in {p : Dat} {k : Int} (s : Sto) (h : Pk p k) : ∃ i j : Int, g_order_of [fr2 0 1, p] s = .ok (.int i) s ∧ g_order_of [p, fr2 1 1] s = .ok (.int j) s ∧ (decide (i < 0) && decide (j < 0)) = inK k := by
  obtain ⟨c1, c2⟩ := in_core (k := k)
  refine ⟨_, _, (order_ok s pk_start h).1, (order_ok s h pk_end).1, ?_⟩
  unfold inK
  rw [Bool.eq_iff_iff]
  simp only [Bool.and_eq_true, decide_eq_true_eq, c1, c2]
end LW

namespace LW
open PySem DL L2
theorem isIn_list (a : Dat) (ds : List Dat) : isIn a (.list ds) = if SeqAt.shaped a && SeqAt.shaped (.list ds) then some (ds.any fun z => PyData.eqv z a) else none := rfl
theorem tuple_isi : isiTab "tuple" "tuple" = true := by decide +kernel
theorem is_frac_ok {n m : Int} (s : Sto) (hm : 0 < m) (g : Int.gcd n m = 1) : g_is_frac [fr2 n m] s = .ok (.bool true) s := by
  have c := common_ok n m s
  rw [g] at c
  have i1 : isiTab "tuple" "tuple" = true := by decide +kernel
  have i2 : isiTab "int" "int" = true := by decide +kernel
  have i3 : isiTab "bool" "int" = false := by decide +kernel
  unfold g_is_frac F_is_frac
  simp [tyName, i1, i2, i3, gNe, gEq, E1_is_frac, bools?, hm, c]
theorem is_frac_root {a0 a1 a2 w : Int} (s : Sto) : g_is_frac [rootD a0 a1 a2 w] s = .ok (.bool false) s := by
  have i1 : isiTab "tuple" "tuple" = true := by decide +kernel
  unfold g_is_frac F_is_frac
  simp [tyName, i1, gNe]
theorem whole_prim {a b c : Int} (s : Sto) (bp : Pb 7 a b c) (g : Int.gcd (Int.gcd a b) c = 1) : g_whole [.tuple [fr a 1, fr b 1, fr c 1]] s = .ok (pl a b c) s := by
  have f : ∀ {x : Int}, Bd 7 x → Fr x 1 := fun {x} h => ⟨by decide, by decide, by have := h.lo; omega, by have := h.hi; omega⟩
  rw [whole_ok s (f bp.a) (f bp.b) (f bp.c)]
  have e : wL 1 1 1 = 1 := by decide
  have m1 : mx 1 = 1 := by decide
  simp [w3, e, g, m1]
theorem is_place_ok {p : Dat} {k : Int} (s : Sto) (h : Pk p k) : g_is_place [p] s = .ok (.bool (inK k)) s := by
  obtain ⟨i, j, e1, e2, e3⟩ := prog_in s h
  cases h with
  | fr n m hm bn bm g =>
    have f := is_frac_ok s hm g
    have c1 := compare_ok (a := 0) (b := 1) (c := n) (d := m) s ⟨by decide, by decide⟩ ⟨by decide, by decide⟩ (bn.mono (show 9 ≤ 60 by decide)) (bm.mono (show 9 ≤ 60 by decide))
    have c2 := compare_ok (a := n) (b := m) (c := 1) (d := 1) s (bn.mono (show 9 ≤ 60 by decide)) (bm.mono (show 9 ≤ 60 by decide)) ⟨by decide, by decide⟩ ⟨by decide, by decide⟩
    have k1 : Int.sign (0 * m - n * 1) = i := by
      have q := (order_ok s pk_start (.fr n m hm bn bm g)).1
      have f1 := fr_key (n := 0) (n' := n) (show (0 : Int) < 1 by decide) hm ⟨by decide, by decide⟩ bm
      rw [e1] at q
      have : (PyData.int i) = .int (Int.sign (0 - n * NN / m)) := by injection q
      injection this with q
      rw [q, f1]
      rfl
    have k2 : Int.sign (n * 1 - 1 * m) = j := by
      have q := (order_ok s (.fr n m hm bn bm g) pk_end).1
      have f1 := fr_key (n := n) (n' := 1) hm (show (0 : Int) < 1 by decide) bm ⟨by decide, by decide⟩
      rw [e2] at q
      have : (PyData.int j) = .int (Int.sign (n * NN / m - NN)) := by injection q
      injection this with q
      rw [q, f1]
      rfl
    rw [k1] at c1
    rw [k2] at c2
    unfold g_is_place F_is_place
    rw [← e3]
    by_cases a : i < 0
    · simp [-Int.not_lt, f, c1, c2, a]
    · simp [-Int.not_lt, f, c1, c2, a]
  | rt a0 a1 a2 w L b bL g =>
    have f := is_frac_root (a0 := a0) (a1 := a1) (a2 := a2) (w := w) s
    have wp := whole_prim s b.o.b7 g
    have i1 : isiTab "tuple" "tuple" = true := by decide +kernel
    have i2 : isiTab "int" "int" = true := by decide +kernel
    have i3 : isiTab "bool" "int" = false := by decide +kernel
    have in01 : isIn (.int w) (.tuple [.int 0, .int 1]) = some true := by
      rcases b.hw with h | h <;> subst h <;> decide +kernel
    obtain ⟨L', hL, g1, _⟩ := both_roots_ok s (b.o.b7.mono (show 7 ≤ 20 by decide))
    have inL : isIn (rootD a0 a1 a2 w) (.list L') = some true := by
      have a2p := b.o.pos
      have dp := b.o.dpos
      cases hL with
      | none0 h2 _ => omega
      | one0 h2 _ => omega
      | none2 _ h => omega
      | one2 r _ h _ => omega
      | two2 r _ _ _ h _ _ => exact absurd h (b.o.nsq r)
      | irr e h2 he hp hD hn =>
        have e1 : e = 1 := by
          rcases he with h | h
          · exact h
          · subst h; omega
        subst e1
        have sh : SeqAt.shaped (.list [rootD (1 * a0) (1 * a1) (1 * a2) 0, rootD (1 * a0) (1 * a1) (1 * a2) 1]) = true := by
          simp [SeqAt.shaped, PyData.canLay0, PyData.canLayAll0, PyData.depth, PyData.depthAll]
          try decide +kernel
        rw [isIn_list, sh, shaped_root]
        simp only [Int.one_mul]
        rcases b.hw with h | h <;> subst h <;> simp [eqv_root]
    have sp := shaped_pl a0 a1 a2
    have ep : PyData.eqv (pl a0 a1 a2) (pl a0 a1 a2) = true := by simp [eqv_pl]
    unfold g_is_place F_is_place
    rw [← e3]
    by_cases a : i < 0
    · simp [-Int.not_lt, f, tyName, i1, i2, i3, gNe, sh_root', eqv_ss, in01, E1_is_place, E2_is_place, bools?, wp, sp, ep, g1, inL, e1, e2, a]
    · simp [-Int.not_lt, f, tyName, i1, i2, i3, gNe, sh_root', eqv_ss, in01, E1_is_place, E2_is_place, bools?, wp, sp, ep, g1, inL, e1, e2, a]
end LW

namespace LW
open PySem DL L2
theorem cut_take (ds : List Dat) (n : Nat) (h : n ≤ ds.length) : cutD ds none (some (n : Int)) = ds.take n := by
  unfold cutD
  have e : HT.sIx ds.length ds.length (some (n : Int)) = n := by
    simp only [HT.sIx]
    rw [if_neg (by omega)]
    omega
  rw [e]
  simp [HT.sIx]
theorem cut_drop (ds : List Dat) (n : Nat) (h : n ≤ ds.length) : cutD ds (some (n : Int)) none = ds.drop n := by
  unfold cutD
  have e : HT.sIx ds.length 0 (some (n : Int)) = n := by
    simp only [HT.sIx]
    rw [if_neg (by omega)]
    omega
  rw [e]
  simp only [HT.sIx]
  exact List.take_of_length_le (by simp)
abbrev PL := List (Dat × Int)
def fsts (L : PL) : List Dat := L.map Prod.fst
@[simp] theorem fsts_nil : fsts [] = [] := rfl
@[simp] theorem fsts_cons (x : Dat × Int) (L : PL) : fsts (x :: L) = x.1 :: fsts L := rfl
@[simp] theorem fsts_len (L : PL) : (fsts L).length = L.length := by simp [fsts]
@[simp] theorem fsts_app (L M : PL) : fsts (L ++ M) = fsts L ++ fsts M := by simp [fsts]
theorem fsts_take (L : PL) (n : Nat) : (fsts L).take n = fsts (L.take n) := by simp [fsts, List.map_take]
theorem fsts_drop (L : PL) (n : Nat) : (fsts L).drop n = fsts (L.drop n) := by simp [fsts, List.map_drop]
def AllPk (L : PL) : Prop := ∀ x, x ∈ L → Pk x.1 x.2
/-- how many of the first ones lie before k -/
def cnt (k : Int) : PL → Nat
  | [] => 0
  | y :: L => if y.2 < k then cnt k L + 1 else 0
theorem cnt_le (k : Int) : ∀ L : PL, cnt k L ≤ L.length
  | [] => Nat.le_refl _
  | y :: L => by
    unfold cnt
    have := cnt_le k L
    split <;> simp <;> omega
theorem cnt_lt (k : Int) : ∀ (L : PL) (i : Nat) (x : Dat × Int), i < cnt k L → L[i]? = some x → x.2 < k
  | [], i, x, h, _ => by simp [cnt] at h
  | y :: L, i, x, h, e => by
    unfold cnt at h
    split at h
    · rename_i q
      cases i with
      | zero => simp at e; rw [← e]; exact q
      | succ i => exact cnt_lt k L i x (by omega) (by simpa using e)
    · omega
theorem cnt_ge (k : Int) : ∀ (L : PL) (x : Dat × Int), L[cnt k L]? = some x → k ≤ x.2
  | [], x, e => by simp at e
  | y :: L, x, e => by
    unfold cnt at e
    split at e
    · exact cnt_ge k L x (by simpa using e)
    · simp at e
      rw [← e]
      omega
def insK (L : PL) (x : Dat × Int) : PL :=
  match L[cnt x.2 L]? with
  | some y => if y.2 = x.2 then L else L.take (cnt x.2 L) ++ [x] ++ L.drop (cnt x.2 L)
  | none => L.take (cnt x.2 L) ++ [x] ++ L.drop (cnt x.2 L)
def Up (L : PL) : Prop := L.Pairwise fun a b => a.2 < b.2
theorem up_filter (k : Int) : ∀ L : PL, Up L → (L.filter fun x => decide (x.2 < k)).length = cnt k L
  | [], _ => rfl
  | y :: L, h => by
    have hc := List.pairwise_cons.mp h
    unfold cnt
    by_cases q : y.2 < k
    · rw [if_pos q, List.filter_cons_of_pos (by simpa using q), List.length_cons, up_filter k L hc.2]
    · rw [if_neg q, List.filter_cons_of_neg (by simpa using q)]
      have : L.filter (fun x => decide (x.2 < k)) = [] := by
        rw [List.filter_eq_nil_iff]
        intro a ha
        have := hc.1 a ha
        simp
        omega
      rw [this]; rfl
theorem mem_cnt (k : Int) : ∀ L : PL, Up L → ∀ x, x ∈ L → x.2 = k → ∃ y, L[cnt k L]? = some y ∧ y.2 = k
  | [], _, x, h, _ => by simp at h
  | y :: L, h, x, hx, e => by
    have hc := List.pairwise_cons.mp h
    unfold cnt
    by_cases q : y.2 < k
    · rw [if_pos q]
      rcases List.mem_cons.mp hx with g | g
      · subst g; omega
      · simpa using mem_cnt k L hc.2 x g e
    · rw [if_neg q]
      refine ⟨y, by simp, ?_⟩
      rcases List.mem_cons.mp hx with g | g
      · subst g; exact e
      · have := hc.1 x g; omega
theorem split_cnt (k : Int) : ∀ L : PL, (∀ x, x ∈ L.take (cnt k L) → x.2 < k)
  | [] => by simp
  | y :: L => by
    unfold cnt
    split
    · rename_i q
      intro x hx
      rw [List.take_succ_cons] at hx
      rcases List.mem_cons.mp hx with g | g
      · subst g; exact q
      · exact split_cnt k L x g
    · simp
theorem drop_ge (k : Int) : ∀ L : PL, Up L → (∀ x, x ∈ L.drop (cnt k L) → k ≤ x.2)
  | [], _ => by simp
  | y :: L, h => by
    have hc := List.pairwise_cons.mp h
    unfold cnt
    split
    · intro x hx
      rw [List.drop_succ_cons] at hx
      exact drop_ge k L hc.2 x hx
    · rename_i q
      intro x hx
      rw [List.drop_zero] at hx
      rcases List.mem_cons.mp hx with g | g
      · subst g; omega
      · have := hc.1 x g; omega
theorem ins_new {L : PL} {x : Dat × Int} (h : ∀ y, y ∈ L → y.2 ≠ x.2) : insK L x = L.take (cnt x.2 L) ++ [x] ++ L.drop (cnt x.2 L) := by
  unfold insK
  split
  · rename_i y hy
    rw [if_neg (h y (List.mem_of_getElem? hy))]
  · rfl
theorem ins_old {L : PL} {x y : Dat × Int} (u : Up L) (h : y ∈ L) (e : y.2 = x.2) : insK L x = L := by
  obtain ⟨z, hz, e'⟩ := mem_cnt x.2 L u y h e
  unfold insK
  rw [hz]
  simp only
  rw [if_pos e']
theorem ins_cases (L : PL) (x : Dat × Int) (u : Up L) : (∃ y, y ∈ L ∧ y.2 = x.2 ∧ insK L x = L) ∨ ((∀ y, y ∈ L → y.2 ≠ x.2) ∧ insK L x = L.take (cnt x.2 L) ++ [x] ++ L.drop (cnt x.2 L)) := by
  by_cases h : ∃ y, y ∈ L ∧ y.2 = x.2
  · obtain ⟨y, hy, e⟩ := h
    exact .inl ⟨y, hy, e, ins_old u hy e⟩
  · have h' : ∀ y, y ∈ L → y.2 ≠ x.2 := fun y hy e => h ⟨y, hy, e⟩
    exact .inr ⟨h', ins_new h'⟩
theorem ins_up {L : PL} {x : Dat × Int} (u : Up L) : Up (insK L x) := by
  rcases ins_cases L x u with ⟨y, hy, e, h⟩ | ⟨hn, h⟩
  · rw [h]; exact u
  · rw [h]
    have u' : Up (L.take (cnt x.2 L) ++ L.drop (cnt x.2 L)) := by rw [List.take_append_drop]; exact u
    have p := List.pairwise_append.mp u'
    have a := split_cnt x.2 L
    have b := drop_ge x.2 L u
    unfold Up
    rw [List.append_assoc, List.pairwise_append]
    refine ⟨p.1, ?_, ?_⟩
    · rw [List.singleton_append, List.pairwise_cons]
      refine ⟨fun y hy => ?_, p.2.1⟩
      have := b y hy
      have := hn y (List.mem_of_mem_drop hy)
      omega
    · intro y hy z hz
      have ha := a y hy
      rw [List.singleton_append] at hz
      rcases List.mem_cons.mp hz with g | g
      · rw [g]; exact ha
      · have := b z g; omega
theorem ins_mem {L : PL} {x : Dat × Int} (u : Up L) (inj : ∀ y, y ∈ L → y.2 = x.2 → y = x) (z : Dat × Int) : z ∈ insK L x ↔ z ∈ L ∨ z = x := by
  rcases ins_cases L x u with ⟨y, hy, e, h⟩ | ⟨hn, h⟩
  · rw [h]
    have := inj y hy e
    subst this
    exact ⟨.inl, fun g => g.elim id fun g => by rw [g]; exact hy⟩
  · rw [h]
    have e : z ∈ L ↔ z ∈ L.take (cnt x.2 L) ∨ z ∈ L.drop (cnt x.2 L) := by
      rw [← List.mem_append, List.take_append_drop]
    rw [List.append_assoc, List.mem_append, List.singleton_append, List.mem_cons, e]
    constructor
    · rintro (h | h | h)
      · exact .inl (.inl h)
      · exact .inr h
      · exact .inl (.inr h)
    · rintro ((h | h) | h)
      · exact .inl h
      · exact .inr (.inr h)
      · exact .inr (.inl h)
theorem ins_len (L : PL) (x : Dat × Int) : (insK L x).length ≤ L.length + 1 := by
  unfold insK
  have := cnt_le x.2 L
  split
  · split
    · omega
    · simp; omega
  · simp; omega
/-- all of K that lie inside, put in -/
def addAll : PL → PL → PL
  | acc, [] => acc
  | acc, x :: K => addAll (if inK x.2 then insK acc x else acc) K
theorem add_up : ∀ (K acc : PL), Up acc → Up (addAll acc K)
  | [], acc, h => h
  | x :: K, acc, h => by
    unfold addAll
    refine add_up K _ ?_
    split
    · exact ins_up h
    · exact h
theorem add_app : ∀ (K M acc : PL), addAll acc (K ++ M) = addAll (addAll acc K) M
  | [], M, acc => rfl
  | x :: K, M, acc => by
    simp only [List.cons_append, addAll]
    exact add_app K M _
theorem add_len : ∀ (K acc : PL), (addAll acc K).length ≤ acc.length + K.length
  | [], acc => by simp [addAll]
  | x :: K, acc => by
    unfold addAll
    have := add_len K (if inK x.2 then insK acc x else acc)
    have h2 : (if inK x.2 then insK acc x else acc).length ≤ acc.length + 1 := by
      split
      · exact ins_len acc x
      · omega
    simp only [List.length_cons]
    omega
theorem pk_inj {x y : Dat × Int} (hx : Pk x.1 x.2) (hy : Pk y.1 y.2) (e : x.2 = y.2) : x = y := by
  have := (order_ok [] hx hy).2.2 e
  obtain ⟨a, b⟩ := x
  obtain ⟨c, d⟩ := y
  simp at this e
  rw [this, e]
theorem add_mem : ∀ (K acc : PL), Up acc → AllPk acc → AllPk K → ∀ z, z ∈ addAll acc K ↔ z ∈ acc ∨ (z ∈ K ∧ inK z.2 = true)
  | [], acc, _, _, _, z => by simp [addAll]
  | x :: K, acc, h, ha, hk, z => by
    unfold addAll
    have inj : ∀ y, y ∈ acc → y.2 = x.2 → y = x := fun y hy e => pk_inj (ha y hy) (hk x (by simp)) e
    have hk' : AllPk K := fun y hy => hk y (List.mem_cons_of_mem _ hy)
    by_cases q : inK x.2 = true
    · rw [if_pos q]
      have ha' : AllPk (insK acc x) := fun y hy => by
        rcases (ins_mem h inj y).mp hy with g | g
        · exact ha y g
        · rw [g]; exact hk x (by simp)
      rw [add_mem K _ (ins_up h) ha' hk' z, ins_mem h inj z]
      simp only [List.mem_cons]
      constructor
      · rintro ((g | g) | g)
        · exact .inl g
        · exact .inr ⟨.inl g, by rw [g]; exact q⟩
        · exact .inr ⟨.inr g.1, g.2⟩
      · rintro (g | ⟨g | g, i⟩)
        · exact .inl (.inl g)
        · exact .inl (.inr g)
        · exact .inr ⟨g, i⟩
    · rw [if_neg q, add_mem K acc h ha hk' z]
      simp only [List.mem_cons]
      constructor
      · rintro (g | g)
        · exact .inl g
        · exact .inr ⟨.inr g.1, g.2⟩
      · rintro (g | ⟨g | g, i⟩)
        · exact .inl g
        · rw [g] at i; exact absurd i q
        · exact .inr ⟨g, i⟩
theorem up_ext : ∀ (L M : PL), Up L → Up M → (∀ z, z ∈ L ↔ z ∈ M) → L = M
  | [], [], _, _, _ => rfl
  | [], y :: M, _, _, h => by have := (h y).mpr (by simp); simp at this
  | x :: L, [], _, _, h => by have := (h x).mp (by simp); simp at this
  | x :: L, y :: M, u, v, h => by
    have hu := List.pairwise_cons.mp u
    have hv := List.pairwise_cons.mp v
    have e : x = y := by
      rcases List.mem_cons.mp ((h x).mp (by simp)) with g | g
      · exact g
      · rcases List.mem_cons.mp ((h y).mpr (by simp)) with g' | g'
        · exact g'.symm
        · have := hv.1 x g; have := hu.1 y g'; omega
    subst e
    congr 1
    refine up_ext L M hu.2 hv.2 fun z => ?_
    constructor
    · intro hz
      rcases List.mem_cons.mp ((h z).mp (List.mem_cons_of_mem _ hz)) with g | g
      · subst g; have := hu.1 z hz; omega
      · exact g
    · intro hz
      rcases List.mem_cons.mp ((h z).mpr (List.mem_cons_of_mem _ hz)) with g | g
      · subst g; have := hv.1 z hz; omega
      · exact g
end LW

namespace LW
open PySem DL L2
theorem pk_sh {p : Dat} {k : Int} (h : Pk p k) : SeqAt.shaped p = true := by
  cases h with
  | fr n m _ _ _ _ => exact shaped_fr2 n m
  | rt a0 a1 a2 w L _ _ _ => exact shaped_root a0 a1 a2 w
theorem pk_refl {p : Dat} {k : Int} (h : Pk p k) : PyData.eqv p p = true := by
  cases h with
  | fr n m _ _ _ _ => simp [eqv_fr2]
  | rt a0 a1 a2 w L _ _ _ => simp [eqv_root]
theorem pk_fun {p : Dat} {k l : Int} (h : Pk p k) (h' : Pk p l) : k = l := by
  have e := (order_ok [] h h').1
  have e2 := (order_ok [] h' h).1
  cases h with
  | fr n m _ _ _ _ => cases h'; rfl
  | rt a0 a1 a2 w L b _ _ =>
    cases h' with
    | rt _ _ _ _ _ b' _ _ => exact tst_unique b.o.pos b.t1 b.t2 b'.t1 b'.t2
theorem pk_eq_of {p q : Dat} {k l : Int} (h : Pk p k) (h' : Pk q l) (e : PyData.eqv p q = true) : p = q := by
  cases h with
  | fr n m _ _ _ _ =>
    cases h' with
    | fr n' m' _ _ _ _ =>
      rw [eqv_fr2] at e
      simp at e
      rw [e.1, e.2]
    | rt a0 a1 a2 w L _ _ _ => rw [eqv_fr_root] at e; cases e
  | rt a0 a1 a2 w L _ _ _ =>
    cases h' with
    | fr n' m' _ _ _ _ => rw [eqv_root_fr] at e; cases e
    | rt b0 b1 b2 v M _ _ _ =>
      rw [eqv_root] at e
      simp at e
      obtain ⟨⟨q1, q2, q3⟩, q4⟩ := e
      rw [q1, q2, q3, q4]
theorem pk_eqv {p q : Dat} {k l : Int} (h : Pk p k) (h' : Pk q l) : PyData.eqv p q = decide (k = l) := by
  by_cases e : k = l
  · have := (order_ok [] h h').2.2 e
    subst this
    rw [pk_refl h, decide_eq_true e]
  · rw [decide_eq_false e]
    by_cases q : PyData.eqv p q = true
    · have := pk_eq_of h h' q
      subst this
      exact absurd (pk_fun h h') e
    · simpa using q
/-! lists of places are shaped -/
theorem pk_lay {p : Dat} {k : Int} (h : Pk p k) : p.canLay0 = true ∧ p.depth ≤ 20 := by
  cases h with
  | fr n m _ _ _ _ => simp [PyData.canLay0, PyData.canLayAll0, PyData.depth, PyData.depthAll]
  | rt a0 a1 a2 w L _ _ _ =>
    constructor
    · simp [PyData.canLay0, PyData.canLayAll0, PyData.depth, PyData.depthAll]
      try decide +kernel
    · simp [PyData.canLay0, PyData.canLayAll0, PyData.depth, PyData.depthAll]
theorem lay_all : ∀ L : PL, AllPk L → PyData.canLayAll0 (fsts L) = true ∧ PyData.depthAll (fsts L) ≤ 20
  | [], _ => by simp [PyData.canLayAll0, PyData.depthAll]
  | x :: L, h => by
    have a := pk_lay (h x (by simp))
    have b := lay_all L fun y hy => h y (List.mem_cons_of_mem _ hy)
    rw [fsts_cons]
    constructor
    · simp [PyData.canLayAll0, a.1, b.1]
    · simp [PyData.depthAll]
      omega
theorem list_sh (L : PL) (h : AllPk L) : SeqAt.shaped (.list (fsts L)) = true := by
  obtain ⟨a, b⟩ := lay_all L h
  unfold SeqAt.shaped
  simp [PyData.canLay0, PyData.depth, a]
  omega
theorem eqv_all : ∀ L : PL, AllPk L → PyData.eqvAll (fsts L) (fsts L) = true
  | [], _ => by simp [PyData.eqvAll]
  | x :: L, h => by
    rw [fsts_cons]
    simp [PyData.eqvAll, pk_refl (h x (by simp)), eqv_all L fun y hy => h y (List.mem_cons_of_mem _ hy)]
theorem list_refl (L : PL) (h : AllPk L) : PyData.eqv (.list (fsts L)) (.list (fsts L)) = true := by
  simp [PyData.eqv, eqv_all L h]
theorem in_list {p : Dat} {k : Int} (h : Pk p k) : ∀ (L : PL), AllPk L → isIn p (.list (fsts L)) = some (L.any fun x => decide (x.2 = k)) := by
  intro L hL
  rw [isIn_list, list_sh L hL, pk_sh h]
  simp only [Bool.and_self, if_true]
  congr 1
  induction L with
  | nil => rfl
  | cons x L ih =>
    rw [fsts_cons, List.any_cons, List.any_cons, ih fun y hy => hL y (List.mem_cons_of_mem _ hy), pk_eqv (hL x (by simp)) h]
/-! the program's list -/
theorem get_fst {L : PL} {i : Nat} {x : Dat × Int} (h : L[i]? = some x) : (fsts L)[i]? = some x.1 := by simp [fsts, h]
theorem put_loop {p : Dat} {k : Int} (h : Pk p k) (L : PL) (hL : AllPk L) (s : Sto) : ∀ (n i : Nat) (x0 : Slt), i ≤ cnt k L → cnt k L - i ≤ n →
    sWhile C1_put_in B1_put_in [x0, .fz p, .fz (.list (fsts L)), .fz (.int i)] s = .nx [x0, .fz p, .fz (.list (fsts L)), .fz (.int (cnt k L : Nat))] s := by
  have stop : ∀ x0 : Slt, sWhile C1_put_in B1_put_in [x0, .fz p, .fz (.list (fsts L)), .fz (.int (cnt k L : Nat))] s = .nx [x0, .fz p, .fz (.list (fsts L)), .fz (.int (cnt k L : Nat))] s := fun x0 => by
    rw [while_step]
    by_cases hl : cnt k L < L.length
    · obtain ⟨x, hx⟩ : ∃ x, L[cnt k L]? = some x := ⟨_, List.getElem?_eq_getElem hl⟩
      have e := (order_ok s (hL x (List.mem_of_getElem? hx)) h).1
      have ge := cnt_ge k L x hx
      have at_ := at_get (k := ((cnt k L : Nat) : Int)) rfl (get_fst hx)
      have ns : ¬ Int.sign (x.2 - k) < 0 := by rw [Int.sign_neg_iff]; omega
      have hl' : ((cnt k L : Nat) : Int) < ((fsts L).length : Nat) := by rw [fsts_len]; omega
      simp [-Int.not_lt, C1_put_in, at_, e, ns, hl]
    · simp [C1_put_in, hl]
  intro n
  induction n with
  | zero =>
    intro i x0 h1 h2
    have : i = cnt k L := by omega
    subst this
    exact stop x0
  | succ n ih =>
    intro i x0 h1 h2
    by_cases e : i = cnt k L
    · subst e; exact stop x0
    · have hi : i < cnt k L := by omega
      have hl : i < L.length := by have := cnt_le k L; omega
      obtain ⟨x, hx⟩ : ∃ x, L[i]? = some x := ⟨_, List.getElem?_eq_getElem hl⟩
      have lt := cnt_lt k L i x hi hx
      have e := (order_ok s (hL x (List.mem_of_getElem? hx)) h).1
      rw [sign_lt lt] at e
      have at_ := at_get (k := (i : Int)) rfl (get_fst hx)
      rw [while_step]
      have := ih (i + 1) x0 (by omega) (by omega)
      rw [Int.natCast_add] at this
      simp [C1_put_in, B1_put_in, at_, e, hl]
      exact this
theorem put_in_ok {p : Dat} {k : Int} (h : Pk p k) (L : PL) (hL : AllPk L) (hn : L.length < 1000000) (s : Sto) : g_put_in [.list (fsts L), p] s = .ok (.list (fsts (insK L (p, k)))) s := by
  have lp := put_loop h L hL s (cnt k L) 0 (.fz (.list (fsts L))) (Nat.zero_le _) (by omega)
  change sWhile _ _ [_, _, _, .fz (.int 0)] s = _ at lp
  have cl := cnt_le k L
  have ct := cut_take (fsts L) (cnt k L) (by rw [fsts_len]; exact cl)
  have cd := cut_drop (fsts L) (cnt k L) (by rw [fsts_len]; exact cl)
  have ce : min (cnt k L) L.length = cnt k L := by omega
  have g1 : cnt k L ≤ 16777215 := by omega
  have g2 : cnt k L + 1 + (L.length - cnt k L) ≤ 16777216 := by omega
  unfold g_put_in F_put_in
  by_cases hl : cnt k L < L.length
  · obtain ⟨x, hx⟩ : ∃ x, L[cnt k L]? = some x := ⟨_, List.getElem?_eq_getElem hl⟩
    have at_ := at_get (k := ((cnt k L : Nat) : Int)) rfl (get_fst hx)
    have px := hL x (List.mem_of_getElem? hx)
    have ev := pk_eqv px h
    by_cases hk : x.2 = k
    · rw [decide_eq_true hk] at ev
      have ei : insK L (p, k) = L := by unfold insK; simp only; rw [hx]; simp only; rw [if_pos hk]
      rw [ei]
      simp [lp, hl, at_, gEq, pk_sh px, pk_sh h, ev]
    · rw [decide_eq_false hk] at ev
      have ei : insK L (p, k) = L.take (cnt k L) ++ [(p, k)] ++ L.drop (cnt k L) := by unfold insK; simp only; rw [hx]; simp only; rw [if_neg hk]
      rw [ei]
      simp [lp, hl, at_, gEq, pk_sh px, pk_sh h, ev, ct, cd, fsts_take, fsts_drop, ce, g1, g2]
  · have hx : L[cnt k L]? = none := by simp; omega
    have ei : insK L (p, k) = L.take (cnt k L) ++ [(p, k)] ++ L.drop (cnt k L) := by unfold insK; simp only; rw [hx]
    rw [ei]
    simp [lp, hl, ct, cd, fsts_take, fsts_drop, ce, g1, g2]
end LW

namespace LW
open PySem DL L2
theorem ins_all {L : PL} {x : Dat × Int} (h : AllPk L) (hx : Pk x.1 x.2) : AllPk (insK L x) := by
  have k : ∀ y, y ∈ L.take (cnt x.2 L) ++ [x] ++ L.drop (cnt x.2 L) → Pk y.1 y.2 := fun y hy => by
    rw [List.append_assoc, List.mem_append, List.singleton_append, List.mem_cons] at hy
    rcases hy with g | g | g
    · exact h y (List.mem_of_mem_take g)
    · rw [g]; exact hx
    · exact h y (List.mem_of_mem_drop g)
  unfold insK
  split
  · split
    · exact h
    · exact k
  · exact k
theorem add_all : ∀ (K acc : PL), AllPk acc → AllPk K → AllPk (addAll acc K)
  | [], acc, h, _ => h
  | x :: K, acc, h, hk => by
    unfold addAll
    refine add_all K _ ?_ fun y hy => hk y (List.mem_cons_of_mem _ hy)
    split
    · exact ins_all h (hk x (by simp))
    · exact h
theorem places_in : ∀ (K acc : PL) (x0 x2 x3 : Slt) (s : Sto), AllPk acc → AllPk K → acc.length + K.length < 1000000 →
    ∃ y3, forL (gSet 3) B1_places_of (fsts K) [x0, .fz (.list (fsts acc)), x2, x3] s = .nx [x0, .fz (.list (fsts (addAll acc K))), x2, y3] s := by
  intro K
  induction K with
  | nil => intro acc x0 x2 x3 s _ _ _; exact ⟨x3, by simp [addAll]⟩
  | cons x K ih =>
    intro acc x0 x2 x3 s ha hk hn
    have px := hk x (by simp)
    have hk' : AllPk K := fun y hy => hk y (List.mem_cons_of_mem _ hy)
    simp only [List.length_cons] at hn
    obtain ⟨i, j, e1, e2, e3⟩ := prog_in s px
    by_cases q : inK x.2 = true
    · rw [q] at e3
      simp only [Bool.and_eq_true, decide_eq_true_eq] at e3
      have pi := put_in_ok px acc ha (by omega) s
      have := ins_len acc x
      obtain ⟨y3, e⟩ := ih (insK acc x) x0 x2 (.fz x.1) s (ins_all ha px) hk' (by omega)
      refine ⟨y3, ?_⟩
      unfold addAll
      rw [if_pos q]
      simp [B1_places_of, e1, e2, e3, pi, e]
    · obtain ⟨y3, e⟩ := ih acc x0 x2 (.fz x.1) s ha hk' (by omega)
      refine ⟨y3, ?_⟩
      unfold addAll
      rw [if_neg q]
      have e3' : (decide (i < 0) && decide (j < 0)) = false := by rw [e3]; simpa using q
      by_cases a : i < 0
      · have b : ¬ j < 0 := fun b => by simp [a, b] at e3'
        simp [-Int.not_lt, B1_places_of, e1, e2, a, b, e]
      · simp [-Int.not_lt, B1_places_of, e1, a, e]
/-- each polynomial's places, at one standing -/
def RK (s : Sto) (Kf : Dat → PL) (ds : List Dat) : Prop := ∀ d, d ∈ ds → PR s d (Kf d)
def allK (Kf : Dat → PL) (ds : List Dat) : PL := ds.flatMap Kf
theorem all_len {s : Sto} {Kf : Dat → PL} : ∀ {ds : List Dat}, RK s Kf ds → (allK Kf ds).length ≤ 2 * ds.length
  | [], _ => by simp [allK]
  | d :: ds, h => by
    have a := (h d (by simp)).n
    have b := all_len (ds := ds) fun x hx => h x (List.mem_cons_of_mem _ hx)
    simp only [allK, List.flatMap_cons, List.length_append, List.length_cons] at *
    omega
theorem places_out (s : Sto) (Kf : Dat → PL) : ∀ (ds : List Dat) (acc : PL) (x0 x2 x3 : Slt), RK s Kf ds → AllPk acc → acc.length + 2 * ds.length < 1000000 →
    ∃ y2 y3, forL (gSet 2) B2_places_of ds [x0, .fz (.list (fsts acc)), x2, x3] s = .nx [x0, .fz (.list (fsts (addAll acc (allK Kf ds)))), y2, y3] s := by
  intro ds
  induction ds with
  | nil => intro acc x0 x2 x3 _ _ _; exact ⟨x2, x3, by simp [addAll, allK]⟩
  | cons d ds ih =>
    intro acc x0 x2 x3 h ha hn
    simp only [List.length_cons] at hn
    have hd := h d (by simp)
    have kn := hd.n
    obtain ⟨y3, e⟩ := places_in (Kf d) acc x0 (.fz d) x3 s ha hd.k (by omega)
    have al := add_len (Kf d) acc
    obtain ⟨z2, z3, e2⟩ := ih (addAll acc (Kf d)) x0 (.fz d) y3 (fun x hx => h x (List.mem_cons_of_mem _ hx)) (add_all _ _ ha hd.k) (by omega)
    refine ⟨z2, z3, ?_⟩
    have er : allK Kf (d :: ds) = Kf d ++ allK Kf ds := by simp [allK]
    have eg := hd.r
    change g_roots [d] s = .ok (.list (fsts (Kf d))) s at eg
    rw [er, add_app]
    simp [B2_places_of, eg, e, e2]
theorem places_of_ok (s : Sto) (Kf : Dat → PL) (ds : List Dat) (h : RK s Kf ds) (hn : ds.length < 1000) : g_places_of [.list ds] s = .ok (.list (fsts (addAll [] (allK Kf ds)))) s := by
  obtain ⟨y2, y3, e⟩ := places_out s Kf ds [] (.fz (.list ds)) .un .un h (fun x hx => by simp at hx) (by simp; omega)
  rw [fsts_nil] at e
  unfold g_places_of F_places_of
  simp [-forL, e]
/-! the law's list -/
theorem law_before {p : Dat} {k : Int} (h : Pk p k) (s : Sto) (a0 a1 a2 a4 : Slt) : ∀ L : PL, AllPk L → lcL (gSet 5) C1__law_places E1__law_places [a0, a1, a2, .fz p, a4, .un] (fsts L) s = .ok (fsts (L.filter fun x => decide (x.2 < k))) s
  | [], _ => by simp
  | x :: L, hL => by
    have e := (order_ok s (hL x (by simp)) h).2.1
    have ih := law_before h s a0 a1 a2 a4 L fun y hy => hL y (List.mem_cons_of_mem _ hy)
    by_cases q : x.2 < k
    · rw [sign_lt q] at e
      rw [List.filter_cons_of_pos (by simpa using q)]
      simp [C1__law_places, E1__law_places, e, ih]
    · have n : ¬ Int.sign (x.2 - k) < 0 := by rw [Int.sign_neg_iff]; omega
      rw [List.filter_cons_of_neg (by simpa using q)]
      simp [-Int.not_lt, C1__law_places, E1__law_places, e, n, ih]
theorem lplaces_in : ∀ (K acc : PL) (x0 x2 x3 x4 : Slt) (s : Sto), Up acc → AllPk acc → AllPk K → acc.length + K.length < 1000000 →
    ∃ y3 y4, forL (gSet 3) B2__law_places (fsts K) [x0, .fz (.list (fsts acc)), x2, x3, x4, .un] s = .nx [x0, .fz (.list (fsts (addAll acc K))), x2, y3, y4, .un] s := by
  intro K
  induction K with
  | nil => intro acc x0 x2 x3 x4 s _ _ _ _; exact ⟨x3, x4, by simp [addAll]⟩
  | cons x K ih =>
    intro acc x0 x2 x3 x4 s hu ha hk hn
    have px := hk x (by simp)
    have hk' : AllPk K := fun y hy => hk y (List.mem_cons_of_mem _ hy)
    simp only [List.length_cons] at hn
    have li := law_in_ok s px
    unfold addAll
    by_cases q : inK x.2 = true
    · rw [q] at li
      rw [if_pos q]
      have il := in_list px acc ha
      have iln := ins_len acc x
      rcases ins_cases acc x hu with ⟨y, hy, e, h⟩ | ⟨hnn, h⟩
      · have an : (acc.any fun z => decide (z.2 = x.2)) = true := List.any_eq_true.mpr ⟨y, hy, by simpa using e⟩
        rw [an] at il
        rw [h]
        obtain ⟨y3, y4, e⟩ := ih acc x0 x2 (.fz x.1) x4 s hu ha hk' (by omega)
        exact ⟨y3, y4, by simp [B2__law_places, li, il, e]⟩
      · have an : (acc.any fun z => decide (z.2 = x.2)) = false := by
          rw [List.any_eq_false]
          intro z hz
          have := hnn z hz
          simpa using this
        rw [an] at il
        obtain ⟨y3, y4, e⟩ := ih (insK acc x) x0 x2 (.fz x.1) (.fz (.int (cnt x.2 acc : Nat))) s (ins_up hu) (ins_all ha px) hk' (by omega)
        refine ⟨y3, y4, ?_⟩
        have lb := law_before px s x0 (.fz (.list (fsts acc))) x2 x4 acc ha
        have lf := up_filter x.2 acc hu
        have cl := cnt_le x.2 acc
        have ct := cut_take (fsts acc) (cnt x.2 acc) (by rw [fsts_len]; exact cl)
        have cd := cut_drop (fsts acc) (cnt x.2 acc) (by rw [fsts_len]; exact cl)
        have ce : min (cnt x.2 acc) acc.length = cnt x.2 acc := by omega
        have g1 : cnt x.2 acc ≤ 16777215 := by omega
        have g2 : cnt x.2 acc + 1 + (acc.length - cnt x.2 acc) ≤ 16777216 := by omega
        have g3 : acc.length < 16777216 := by omega
        rw [h] at e
        rw [h]
        rw [List.append_assoc, List.singleton_append, fsts_app, fsts_cons] at e
        rw [List.append_assoc, List.singleton_append]
        simp [B2__law_places, li, il, lb, lf, ct, cd, fsts_take, fsts_drop, ce, g1, g2, g3, e, wipeE]
    · have li' : inK x.2 = false := by simpa using q
      rw [li'] at li
      rw [if_neg q]
      obtain ⟨y3, y4, e⟩ := ih acc x0 x2 (.fz x.1) x4 s hu ha hk' (by omega)
      exact ⟨y3, y4, by simp [B2__law_places, li, e]⟩
theorem lplaces_out (s : Sto) (Kf : Dat → PL) : ∀ (ds : List Dat) (acc : PL) (x0 x2 x3 x4 : Slt), RK s Kf ds → Up acc → AllPk acc → acc.length + 2 * ds.length < 1000000 →
    ∃ y2 y3 y4, forL (gSet 2) B3__law_places ds [x0, .fz (.list (fsts acc)), x2, x3, x4, .un] s = .nx [x0, .fz (.list (fsts (addAll acc (allK Kf ds)))), y2, y3, y4, .un] s := by
  intro ds
  induction ds with
  | nil => intro acc x0 x2 x3 x4 _ _ _ _; exact ⟨x2, x3, x4, by simp [addAll, allK]⟩
  | cons d ds ih =>
    intro acc x0 x2 x3 x4 h hu ha hn
    simp only [List.length_cons] at hn
    have hd := h d (by simp)
    have kn := hd.n
    obtain ⟨y3, y4, e⟩ := lplaces_in (Kf d) acc x0 (.fz d) x3 x4 s hu ha hd.k (by omega)
    have al := add_len (Kf d) acc
    obtain ⟨z2, z3, z4, e2⟩ := ih (addAll acc (Kf d)) x0 (.fz d) y3 y4 (fun x hx => h x (List.mem_cons_of_mem _ hx)) (add_up _ _ hu) (add_all _ _ ha hd.k) (by omega)
    refine ⟨z2, z3, z4, ?_⟩
    have er : allK Kf (d :: ds) = Kf d ++ allK Kf ds := by simp [allK]
    have eg := hd.l
    change g__law_roots [d] s = .ok (.list (fsts (Kf d))) s at eg
    rw [er, add_app]
    simp [B3__law_places, eg, e, e2]
theorem law_places_ok (s : Sto) (Kf : Dat → PL) (ds : List Dat) (h : RK s Kf ds) (hn : ds.length < 1000) : g__law_places [.list ds] s = .ok (.list (fsts (addAll [] (allK Kf ds)))) s := by
  obtain ⟨y2, y3, y4, e⟩ := lplaces_out s Kf ds [] (.fz (.list ds)) .un .un .un h List.Pairwise.nil (fun x hx => by simp at hx) (by simp; omega)
  rw [fsts_nil] at e
  unfold g__law_places F__law_places
  simp [-forL, e]
theorem allK_pk {s : Sto} {Kf : Dat → PL} {ds : List Dat} (h : RK s Kf ds) : AllPk (allK Kf ds) := fun x hx => by
  obtain ⟨d, hd, hx⟩ := List.mem_flatMap.mp hx
  exact (h d hd).k x hx
/-- turned round, the same places -/
theorem add_rev {s : Sto} {Kf : Dat → PL} {ds : List Dat} (h : RK s Kf ds) : addAll [] (allK Kf ds.reverse) = addAll [] (allK Kf ds) := by
  have h' : RK s Kf ds.reverse := fun d hd => h d (List.mem_reverse.mp hd)
  have e0 : AllPk [] := fun x hx => by simp at hx
  refine up_ext _ _ (add_up _ _ List.Pairwise.nil) (add_up _ _ List.Pairwise.nil) fun z => ?_
  rw [add_mem _ _ List.Pairwise.nil e0 (allK_pk h'), add_mem _ _ List.Pairwise.nil e0 (allK_pk h)]
  have : z ∈ allK Kf ds.reverse ↔ z ∈ allK Kf ds := by simp [allK]
  rw [this]
end LW

namespace LW
open PySem DL L2
/-! ### unlike places lie apart -/
theorem abs_le {x y a b : Int} (hx : -a ≤ x ∧ x ≤ a) (hy : -b ≤ y ∧ y ≤ b) : -(a * b) ≤ x * y ∧ x * y ≤ a * b := abs_mul_le hx.1 hx.2 hy.1 hy.2
/-- how far two values of a polynomial lie apart, over the same bottom -/
theorem q_diff (a0 a1 a2 t u d : Int) : qv a0 a1 a2 t d - qv a0 a1 a2 u d = (t - u) * (a1 * d + a2 * (t + u)) := by unfold qv; grind
theorem q_near {a0 a1 a2 t u d g D : Int} (ba : Pb 7 a0 a1 a2) (hd : 0 ≤ d) (hD : d ≤ D) (ht : 0 ≤ t ∧ t ≤ 2 * D) (hu : 0 ≤ u ∧ u ≤ 2 * D) (h1 : -g ≤ t - u) (h2 : t - u ≤ g) (hg : 0 ≤ g) :
    -(g * (635 * D)) ≤ qv a0 a1 a2 t d - qv a0 a1 a2 u d ∧ qv a0 a1 a2 t d - qv a0 a1 a2 u d ≤ g * (635 * D) := by
  rw [q_diff]
  have b1 := abs_le (x := a1) (y := d) (a := 127) (b := D) ⟨by have := ba.b.lo; omega, by have := ba.b.hi; omega⟩ ⟨by omega, hD⟩
  have b2 := abs_le (x := a2) (y := t + u) (a := 127) (b := 4 * D) ⟨by have := ba.c.lo; omega, by have := ba.c.hi; omega⟩ ⟨by omega, by omega⟩
  exact abs_le ⟨h1, h2⟩ ⟨by omega, by omega⟩
theorem res_id (a0 a1 a2 b0 b1 b2 : Int) : (2 * b2 * vU a0 a2 b0 b2 - vU a1 a2 b1 b2 * b1) * (2 * b2 * vU a0 a2 b0 b2 - vU a1 a2 b1 b2 * b1) - vU a1 a2 b1 b2 * vU a1 a2 b1 b2 * (b1 * b1 - 4 * b0 * b2) =
    4 * (b2 * b2) * (vU a0 a2 b0 b2 * vU a0 a2 b0 b2 - vU a1 a2 b1 b2 * (a0 * b1 - a1 * b0)) := by unfold vU; grind
theorem nat_sq (x : Int) : 0 ≤ x * x := by
  rcases Int.le_total 0 x with q | q
  · exact Int.mul_nonneg q q
  · have := Int.mul_nonneg (show 0 ≤ -x by omega) (show 0 ≤ -x by omega)
    rw [Int.neg_mul_neg] at this; exact this
/-- the value at a root's middle is not small -/
theorem far_val {a0 a1 a2 b0 b1 b2 v M : Int} (ba : Pb 7 a0 a1 a2) (b : Bkt b0 b1 b2 v M) (nz : 2 * b2 * vU a0 a2 b0 b2 - vU a1 a2 b1 b2 * b1 ≠ 0 ∨ vU a1 a2 b1 b2 ≠ 0) :
    2 ^ 154 < qv a0 a1 a2 (2 * M + 1) (2 * NN) ∨ qv a0 a1 a2 (2 * M + 1) (2 * NN) < -(2 ^ 154) := by
  have k := b.brk
  obtain ⟨y0, y1, z1, z2⟩ := k.b
  have b2p := b.o.pos
  have bb := b.o.b7
  have nE := no_sq b.o.nsq nz
  have rid := res_id a0 a1 a2 b0 b1 b2
  have ssq : sg v * sg v = 1 := by rcases b.hw with h | h <;> subst h <;> decide
  have id1 : qv a0 a1 a2 (2 * M + 1) (2 * NN) * (2 * (b2 * b2)) =
      bigP (2 * b2 * vU a0 a2 b0 b2 - vU a1 a2 b1 b2 * b1) (sg v * vU a1 a2 b1 b2) (b1 * b1 - 4 * b0 * b2) a2 (sg v * (b2 * (2 * M + 1) + b1 * NN)) := by
    unfold bigP vU qv
    generalize sg v = z at *
    grind
  have bV : -(2 ^ 15 : Int) ≤ vU a1 a2 b1 b2 ∧ vU a1 a2 b1 b2 ≤ 2 ^ 15 := by
    have u1 := ba.b.mul bb.c
    have u2 := ba.c.mul bb.b
    have := u1.lo; have := u1.hi; have := u2.lo; have := u2.hi
    unfold vU
    omega
  have bU : -(2 ^ 15 : Int) ≤ vU a0 a2 b0 b2 ∧ vU a0 a2 b0 b2 ≤ 2 ^ 15 := by
    have u1 := ba.a.mul bb.c
    have u2 := ba.c.mul bb.a
    have := u1.lo; have := u1.hi; have := u2.lo; have := u2.hi
    unfold vU
    omega
  have bA : -(2 ^ 24 : Int) ≤ 2 * b2 * vU a0 a2 b0 b2 - vU a1 a2 b1 b2 * b1 ∧ 2 * b2 * vU a0 a2 b0 b2 - vU a1 a2 b1 b2 * b1 ≤ 2 ^ 24 := by
    have w1 := abs_le (x := b2) (y := vU a0 a2 b0 b2) (a := 127) (b := 2 ^ 15) ⟨by omega, by have := bb.c.hi; omega⟩ bU
    have w2 := abs_le (x := vU a1 a2 b1 b2) (y := b1) (a := 2 ^ 15) (b := 127) bV ⟨by have := bb.b.lo; omega, by have := bb.b.hi; omega⟩
    have e : 2 * b2 * vU a0 a2 b0 b2 = 2 * (b2 * vU a0 a2 b0 b2) := by grind
    omega
  have bp2 : -(127 : Int) ≤ a2 ∧ a2 ≤ 127 := ⟨by have := ba.c.lo; omega, by have := ba.c.hi; omega⟩
  have vv : sg v * vU a1 a2 b1 b2 * (sg v * vU a1 a2 b1 b2) = vU a1 a2 b1 b2 * vU a1 a2 b1 b2 := by
    generalize sg v = z at *
    grind
  have bV' : -(2 ^ 15 : Int) ≤ sg v * vU a1 a2 b1 b2 ∧ sg v * vU a1 a2 b1 b2 ≤ 2 ^ 15 := by
    rcases b.hw with h | h <;> subst h
    · have : sg 0 = -1 := by decide
      rw [this]; omega
    · have : sg 1 = 1 := by decide
      rw [this]; omega
  rw [← vv] at rid nE
  have hc2 : b2 ≤ 127 := by have := bb.c.hi; omega
  generalize vU a0 a2 b0 b2 * vU a0 a2 b0 b2 - vU a1 a2 b1 b2 * (a0 * b1 - a1 * b0) = R at *
  generalize 2 * b2 * vU a0 a2 b0 b2 - vU a1 a2 b1 b2 * b1 = A at *
  generalize sg v * vU a1 a2 b1 b2 = V at *
  generalize sg v * (b2 * (2 * M + 1) + b1 * NN) = Y at *
  generalize b1 * b1 - 4 * b0 * b2 = D at *
  generalize qv a0 a1 a2 (2 * M + 1) (2 * NN) = Q at *
  have hR : R ≠ 0 := fun z => nE (by rw [rid, z, Int.mul_zero])
  have c0 : 1 ≤ b2 * b2 := by have := Int.mul_pos b2p b2p; omega
  have c1 : b2 * b2 ≤ 127 * 127 := Int.mul_le_mul hc2 hc2 (by omega) (by decide)
  unfold bigP at id1
  -- the two factors
  have bNA := abs_le (x := NN) (y := A) (a := 2 ^ 90) (b := 2 ^ 24) (by decide) bA
  have bVY := abs_le (x := V) (y := Y) (a := 2 ^ 15) (b := 2 ^ 101) bV' ⟨by omega, by omega⟩
  have bVV := abs_le (x := V) (y := V) (a := 2 ^ 15) (b := 2 ^ 15) bV' bV'
  have bW := abs_le (x := V * V) (y := Y * Y - D * (NN * NN)) (a := 2 ^ 30) (b := 2 ^ 113) ⟨by omega, by omega⟩ ⟨z1, z2⟩
  have bT := abs_le (x := a2) (y := Y * Y - D * (NN * NN)) (a := 127) (b := 2 ^ 113) bp2 ⟨z1, z2⟩
  have prod : (NN * A + V * Y) * (NN * A - V * Y) = NN * NN * (4 * (b2 * b2) * R) - V * V * (Y * Y - D * (NN * NN)) := by rw [← rid]; grind
  have e1 : NN * NN * (4 * (b2 * b2) * R) = 2 ^ 182 * (b2 * b2 * R) := by
    have e0 : NN * NN * (4 * (b2 * b2) * R) = NN * NN * 4 * (b2 * b2 * R) := by grind
    rw [e0, show (NN : Int) * NN * 4 = 2 ^ 182 by decide]
  rw [e1] at prod
  have bR : b2 * b2 ≤ b2 * b2 * R ∨ b2 * b2 * R ≤ -(b2 * b2) := by
    rcases Int.lt_or_gt_of_ne hR with h | h
    · refine .inr ?_
      have := Int.mul_le_mul_of_nonneg_left (show R ≤ -1 by omega) (show 0 ≤ b2 * b2 by omega)
      omega
    · refine .inl ?_
      have := Int.mul_le_mul_of_nonneg_left (show 1 ≤ R by omega) (show 0 ≤ b2 * b2 by omega)
      omega
  -- T = NN * A + V * Y is not small
  have hT : 2 ^ 64 * (b2 * b2) < NN * A + V * Y ∨ NN * A + V * Y < -(2 ^ 64 * (b2 * b2)) := by
    apply Classical.byContradiction
    intro hn
    have g := abs_le (x := NN * A + V * Y) (y := NN * A - V * Y) (a := 2 ^ 64 * (b2 * b2)) (b := 2 ^ 117) ⟨by omega, by omega⟩ ⟨by omega, by omega⟩
    have e2 : 2 ^ 64 * (b2 * b2) * 2 ^ 117 = 2 ^ 181 * (b2 * b2) := by grind
    rw [prod, e2] at g
    omega
  generalize NN * A + V * Y = T at *
  have e3 : Q * (2 * (b2 * b2)) = 4 * (NN * T) + 2 * (a2 * (Y * Y - D * (NN * NN))) := id1
  apply Classical.byContradiction
  intro hn
  have g := abs_le (x := Q) (y := 2 * (b2 * b2)) (a := 2 ^ 154) (b := 2 * (b2 * b2)) ⟨by omega, by omega⟩ ⟨by omega, by omega⟩
  rw [e3] at g
  have eT : NN * T = 2 ^ 90 * T := by rw [show (NN : Int) = 2 ^ 90 by decide]
  rw [eT] at g
  rcases hT with h | h
  · omega
  · omega
end LW

namespace LW
open PySem DL L2
theorem mul_sub_bd {x y g : Int} (h1 : x - y ≤ g) (h2 : y - x ≤ g) : -g ≤ x - y ∧ x - y ≤ g := by omega
/-- two roots of unlike polynomials -/
theorem sep_roots {a0 a1 a2 w L b0 b1 b2 v M : Int} (a : Bkt a0 a1 a2 w L) (b : Bkt b0 b1 b2 v M) (hn : ¬ (a0 * b2 = b0 * a2 ∧ a1 * b2 = b1 * a2)) (hL : 0 ≤ L ∧ L ≤ NN) (hM : 0 ≤ M ∧ M ≤ NN) (h1 : L - M ≤ 2 ^ 51) (h2 : M - L ≤ 2 ^ 51) : False := by
  have nz : 2 * b2 * vU a0 a2 b0 b2 - vU a1 a2 b1 b2 * b1 ≠ 0 ∨ vU a1 a2 b1 b2 ≠ 0 := by
    by_cases hV : vU a1 a2 b1 b2 = 0
    · refine .inl fun h => hn ?_
      rw [hV, Int.zero_mul, Int.sub_zero] at h
      have hU : vU a0 a2 b0 b2 = 0 := by
        have := b.o.pos
        rcases Int.mul_eq_zero.mp h with q | q
        · omega
        · exact q
      unfold vU at hU hV
      have c1 := Int.mul_comm a2 b0
      have c2 := Int.mul_comm a2 b1
      omega
    · exact .inr hV
  have far := far_val a.o.b7 b nz
  have n90 : (NN : Int) = 2 ^ 90 := by decide
  have D1 := q_near (t := 2 * M + 1) (u := 2 * L) (d := 2 * NN) (D := 2 * NN) (g := 2 ^ 53) a.o.b7 (by decide) (by omega) (by omega) (by omega) (by omega) (by omega) (by decide)
  have D2 := q_near (t := 2 * M + 1) (u := 2 * (L + 1)) (d := 2 * NN) (D := 2 * NN) (g := 2 ^ 53) a.o.b7 (by decide) (by omega) (by omega) (by omega) (by omega) (by omega) (by decide)
  have x1 : qv a0 a1 a2 (2 * L) (2 * NN) = qv a0 a1 a2 L NN * 4 := by unfold qv; grind
  have x2 : qv a0 a1 a2 (2 * (L + 1)) (2 * NN) = qv a0 a1 a2 (L + 1) NN * 4 := by unfold qv; grind
  have e := a.ends
  rw [x1] at D1
  rw [x2] at D2
  have big : (2 : Int) ^ 53 * (635 * (2 * NN)) ≤ 2 ^ 154 := by decide
  have q0 : qv a0 a1 a2 L NN < 0 ∧ 0 ≤ qv a0 a1 a2 (L + 1) NN ∨ 0 ≤ qv a0 a1 a2 L NN ∧ qv a0 a1 a2 (L + 1) NN < 0 := by omega
  omega
/-- the two roots of one polynomial -/
theorem sep_same {a0 a1 a2 w v L M : Int} (a : Bkt a0 a1 a2 w L) (b : Bkt a0 a1 a2 v M) (h : L < M) (h0 : 0 ≤ L) (h1 : M ≤ NN) (h2 : M ≤ L + 2 ^ 51) : False := by
  have ka := a.brk.b
  have kb := b.brk.b
  have hc := a.o.b7.c.hi
  have a2p := a.o.pos
  have e : a2 * (2 * M + 1) + a1 * NN - (a2 * (2 * L + 1) + a1 * NN) = 2 * (a2 * (M - L)) := by grind
  have bd := abs_le (x := a2) (y := M - L) (a := 127) (b := 2 ^ 51) ⟨by omega, by omega⟩ ⟨by omega, by omega⟩
  have nw : ¬ w = v := fun z => by
    subst z
    have := tst_unique a2p a.t1 a.t2 b.t1 b.t2
    omega
  have s0 : sg 0 = -1 := by decide
  have s1 : sg 1 = 1 := by decide
  rcases a.hw with hw | hw <;> rcases b.hw with hv | hv
  · omega
  · subst hw hv
    rw [s0] at ka
    rw [s1] at kb
    omega
  · subst hw hv
    rw [s1] at ka
    rw [s0] at kb
    omega
  · omega
/-- a root and a fraction -/
theorem sep_root_fr {a0 a1 a2 w L n m : Int} (a : Bkt a0 a1 a2 w L) (hm : 0 < m) (bm : Bd 9 m) (hL : 0 ≤ L ∧ L ≤ NN) (hK : 0 ≤ n * NN / m ∧ n * NN / m ≤ NN) (h1 : L - n * NN / m ≤ 2 ^ 51) (h2 : n * NN / m - L ≤ 2 ^ 51) : False := by
  have n90 : (NN : Int) = 2 ^ 90 := by decide
  have q0 := q_ne (n := n) a.o (show m ≠ 0 by omega)
  have e1 := Int.ediv_mul_le (n * NN) (show m ≠ 0 by omega)
  have e2 := Int.lt_ediv_add_one_mul_self (n * NN) hm
  have bm' := bm.hi
  generalize n * NN / m = K at *
  have f3 : (K + 1) * m = K * m + m := by grind
  -- over the bottom m N
  have mN : 0 ≤ m * NN := Int.mul_nonneg (by omega) (by decide)
  have k0 : 0 ≤ K * m := Int.mul_nonneg hK.1 (by omega)
  have k1 : K * m ≤ NN * m := Int.mul_le_mul_of_nonneg_right hK.2 (by omega)
  have l0 : 0 ≤ L * m := Int.mul_nonneg hL.1 (by omega)
  have l1 : L * m ≤ NN * m := Int.mul_le_mul_of_nonneg_right hL.2 (by omega)
  have g1 : (L - K) * m ≤ 2 ^ 51 * m := Int.mul_le_mul_of_nonneg_right h1 (by omega)
  have g2 : (K - L) * m ≤ 2 ^ 51 * m := Int.mul_le_mul_of_nonneg_right h2 (by omega)
  have s1 : (L - K) * m = L * m - K * m := by grind
  have s2 : (K - L) * m = K * m - L * m := by grind
  have s3 : (L + 1) * m = L * m + m := by grind
  have cN : NN * m = m * NN := Int.mul_comm _ _
  have mb : m * NN ≥ m * 2 := Int.mul_le_mul_of_nonneg_left (by decide) (by omega)
  have D1 := q_near (t := n * NN) (u := L * m) (d := m * NN) (D := m * NN) (g := 2 ^ 52 * m) a.o.b7 mN (by omega) (by omega) (by omega) (by omega) (by omega) (by omega)
  have D2 := q_near (t := n * NN) (u := (L + 1) * m) (d := m * NN) (D := m * NN) (g := 2 ^ 52 * m) a.o.b7 mN (by omega) (by omega) (by omega) (by omega) (by omega) (by omega)
  have x0 : qv a0 a1 a2 (n * NN) (m * NN) = qv a0 a1 a2 n m * (NN * NN) := by unfold qv; grind
  have x1 : qv a0 a1 a2 (L * m) (m * NN) = qv a0 a1 a2 L NN * (m * m) := by unfold qv; grind
  have x2 : qv a0 a1 a2 ((L + 1) * m) (m * NN) = qv a0 a1 a2 (L + 1) NN * (m * m) := by unfold qv; grind
  rw [x0, x1] at D1
  rw [x0, x2] at D2
  have e := a.ends
  have q1 : qv a0 a1 a2 L NN < 0 ∧ 0 ≤ qv a0 a1 a2 (L + 1) NN ∨ 0 ≤ qv a0 a1 a2 L NN ∧ qv a0 a1 a2 (L + 1) NN < 0 := by omega
  have mm := Int.mul_pos hm hm
  have mm2 : m * m ≤ 511 * 511 := Int.mul_le_mul (by omega) (by omega) (by omega) (by decide)
  have bg : 2 ^ 52 * m * (635 * (m * NN)) ≤ 2 ^ 171 := by
    have e : 2 ^ 52 * m * (635 * (m * NN)) = (2 ^ 52 * 635 * NN) * (m * m) := by grind
    rw [e]
    have := Int.mul_le_mul_of_nonneg_left mm2 (show (0 : Int) ≤ 2 ^ 52 * 635 * NN by decide)
    have : (2 : Int) ^ 52 * 635 * NN * (511 * 511) ≤ 2 ^ 171 := by decide
    omega
  have n2 : (NN : Int) * NN = 2 ^ 180 := by decide
  rw [n2] at D1 D2
  have p0 : ∀ x : Int, 0 ≤ x → 0 ≤ x * (m * m) := fun x h => Int.mul_nonneg h (by omega)
  have p1 : ∀ x : Int, x < 0 → x * (m * m) ≤ 0 := fun x h => Int.mul_nonpos_of_nonpos_of_nonneg (by omega) (by omega)
  rcases Int.lt_or_gt_of_ne q0 with h | h
  · rcases q1 with ⟨_, h'⟩ | ⟨h', _⟩
    · have := p0 _ h'; omega
    · have := p0 _ h'; omega
  · rcases q1 with ⟨h', _⟩ | ⟨_, h'⟩
    · have := p1 _ h'; omega
    · have := p1 _ h'; omega
/-- unlike places lie more than 2^51 apart -/
theorem sep {p q : Dat} {K L : Int} (hp : Pk p K) (hq : Pk q L) (h : K < L) (h0 : 0 ≤ K) (h1 : L ≤ NN) : K + 2 ^ 51 < L := by
  apply Classical.byContradiction
  intro hn
  cases hp with
  | fr n m hm bn bm g =>
    cases hq with
    | fr n' m' hm' bn' bm' g' =>
      have e1 := Int.ediv_mul_le (n' * NN) (show m' ≠ 0 by omega)
      have e2 := Int.lt_ediv_add_one_mul_self (n * NN) hm
      have fk := fr_key (n := n) (n' := n') hm hm' bm bm'
      rw [sign_lt h] at fk
      have fk' := Int.sign_eq_neg_one_iff_neg.mp fk
      have e3 := Int.lt_ediv_add_one_mul_self (n' * NN) hm'
      have e4 := Int.ediv_mul_le (n * NN) (show m ≠ 0 by omega)
      generalize n * NN / m = A at *
      generalize n' * NN / m' = B at *
      have pm := Int.mul_pos hm hm'
      have b := (bm.mul bm').hi
      have f1 := Int.mul_le_mul_of_nonneg_right e4 (show 0 ≤ m' by omega)
      have f2 := Int.mul_lt_mul_of_pos_right e3 hm
      have f4 := Int.mul_le_mul_of_nonneg_right (show n * m' + 1 ≤ n' * m by omega) (show (0 : Int) ≤ NN by decide)
      have f5 := Int.mul_le_mul_of_nonneg_right (show B + 1 ≤ A + 2 ^ 51 + 1 by omega) (show 0 ≤ m * m' by omega)
      have g1 : A * m * m' = A * (m * m') := by grind
      have g2 : n * NN * m' = n * m' * NN := by grind
      have g3 : n' * NN * m = n' * m * NN := by grind
      have g4 : (B + 1) * m' * m = (B + 1) * (m * m') := by grind
      have g5 : (A + 2 ^ 51 + 1) * (m * m') = A * (m * m') + (2 ^ 51 + 1) * (m * m') := by grind
      have g6 : (n * m' + 1) * NN = n * m' * NN + NN := by grind
      have n1 : (NN : Int) > (2 ^ 51 + 1) * 2 ^ (9 + 9) := by decide
      omega
    | rt b0 b1 b2 v M b _ _ => exact sep_root_fr b hm bm ⟨by omega, h1⟩ ⟨h0, by omega⟩ (by omega) (by omega)
  | rt a0 a1 a2 w L' a _ ga =>
    cases hq with
    | fr n' m' hm' bn' bm' g' => exact sep_root_fr a hm' bm' ⟨h0, by omega⟩ ⟨by omega, h1⟩ (by omega) (by omega)
    | rt b0 b1 b2 v M b _ gb =>
      by_cases same : a0 = b0 ∧ a1 = b1 ∧ a2 = b2
      · obtain ⟨rfl, rfl, rfl⟩ := same
        exact sep_same a b h h0 h1 (by omega)
      · exact sep_roots a b (fun z => same (prim_eq a.o.pos b.o.pos ga gb z.1 z.2)) ⟨h0, by omega⟩ ⟨by omega, h1⟩ (by omega) (by omega)
end LW

namespace LW
open PySem DL L2
/-! ### points of the halving -/
theorem frac_okW (n d : Int) (s : Sto) (hd : d ≠ 0) (h1 : -(2 ^ 200 : Int) < d) (h2 : d < 2 ^ 200) : g_frac [.int n, .int d] s = .ok (.tuple [.int (fn n d), .int (fd n d)]) s := by
  have hg := gcd_pos (n := n) hd
  have hg2 : (Int.gcd n d : Int) < 2 ^ 200 := by have := Int.gcd_le_natAbs_right n hd; omega
  have dv := div_okW (i := 0) hg (by omega)
  have dvA : ∀ i, cDiv i (Int.gcd n d) = true := fun i => div_okW hg (by omega)
  unfold g_frac F_frac fn fd
  by_cases h : d < 0
  · simp [h, common_ok, dvA]
  · simp [h, common_ok, dvA]
theorem compare_okW {a b c d : Int} (s : Sto) (ha : Bd 100 a) (hb : Bd 100 b) (hc : Bd 100 c) (hd : Bd 100 d) : g_compare [fr2 a b, fr2 c d] s = .ok (.int (Int.sign (a * d - c * b))) s := by
  unfold g_compare F_compare
  simp [ha.ok hd (by decide) (by decide), hc.ok hb (by decide) (by decide), sign_of_ok]
theorem sign_at_okW {a b c n d : Int} (s : Sto) (h : Pb 12 a b c) (hn : Bd 92 n) (hd : Bd 92 d) : g_sign_at [pl a b c, fr2 n d] s = .ok (.int (Int.sign (a * d * d + b * n * d + c * n * n))) s := by
  unfold g_sign_at F_sign_at
  simp [h.a.ok hd (by decide) (by decide), (h.a.mul hd).ok hd (by decide) (by decide), h.b.ok hn (by decide) (by decide), (h.b.mul hn).ok hd (by decide) (by decide), h.c.ok hn (by decide) (by decide), (h.c.mul hn).ok hn (by decide) (by decide), sign_of_ok]
theorem root_side_okW {a0 a1 a2 w t0 t1 : Int} (s : Sto) (ba : Pb 12 a0 a1 a2) (b0 : Bd 92 t0) (b1 : Bd 92 t1) : g_root_side [rootD a0 a1 a2 w, fr2 t0 t1] s =
    .ok (.int (if a0 * t1 * t1 + a1 * t0 * t1 + a2 * t0 * t0 < 0 then (if w = 1 then 1 else -1) else Int.sign (-a1 * t1 - 2 * a2 * t0))) s := by
  have e := sign_at_okW (a := a0) (b := a1) (c := a2) (n := t0) (d := t1) s ba b0 b1
  have q1 := ba.b.neg.ok b1 (by decide) (by decide)
  have q2 : cMul 2 a2 = true := (show Bd 2 2 from ⟨by decide, by decide⟩).ok ba.c (by decide) (by decide)
  have q3 := ((show Bd 2 2 from ⟨by decide, by decide⟩).mul ba.c).ok b0 (by decide) (by decide)
  unfold g_root_side F_root_side
  by_cases h : a0 * t1 * t1 + a1 * t0 * t1 + a2 * t0 * t0 < 0
  · by_cases hw : w = 1 <;> simp [e, h, Int.sign_eq_neg_one_of_neg h, gEq, hw]
  · have hs : ¬ Int.sign (a0 * t1 * t1 + a1 * t0 * t1 + a2 * t0 * t0) < 0 := by
      have := Int.sign_nonneg_iff.mpr (show 0 ≤ a0 * t1 * t1 + a1 * t0 * t1 + a2 * t0 * t0 by omega)
      omega
    simp [e, h, hs, q1, q2, q3, sign_of_ok]
theorem side_okW {a0 a1 a2 w n m : Int} (s : Sto) (o : Own a0 a1 a2) (hw : w = 0 ∨ w = 1) (hm : 0 < m) (bn : Bd 92 n) (bm : Bd 92 m) :
    (Rt a0 a1 a2 w n m → g_root_side [rootD a0 a1 a2 w, fr2 n m] s = .ok (.int (-1)) s) ∧ (¬ Rt a0 a1 a2 w n m → g_root_side [rootD a0 a1 a2 w, fr2 n m] s = .ok (.int 1) s) := by
  have e := root_side_okW (w := w) s o.b bn bm
  rw [e]
  have q0 := q_ne (n := n) o (show m ≠ 0 by omega)
  have eq : a0 * m * m + a1 * n * m + a2 * n * n = qv a0 a1 a2 n m := rfl
  rw [eq]
  have ey : -a1 * m - 2 * a2 * n = -yv a1 a2 n m := by unfold yv; grind
  rw [ey]
  have yn := y_ne (n := n) o hm
  unfold Rt
  generalize qv a0 a1 a2 n m = Q at *
  generalize yv a1 a2 n m = Y at *
  by_cases hq : Q < 0
  · rw [if_pos hq]
    rcases hw with h | h
    · subst h
      exact ⟨fun _ => by simp, fun r => absurd (.inl ⟨rfl, .inr hq⟩) r⟩
    · subst h
      exact ⟨fun r => by omega, fun _ => by simp⟩
  · rw [if_neg hq]
    have yn' := yn (by omega)
    by_cases hy : 0 < Y
    · rw [Int.sign_eq_neg_one_of_neg (show -Y < 0 by omega)]
      exact ⟨fun _ => rfl, fun r => absurd (by omega) r⟩
    · rw [Int.sign_eq_one_of_pos (show 0 < -Y by omega)]
      exact ⟨fun r => by omega, fun _ => rfl⟩
/-- the fraction X / 2^90, made as small as can be -/
inductive Dy : Dat → Int → Prop where
  | mk (n m X : Int) : 0 < m → Int.gcd n m = 1 → n * NN = X * m → 0 ≤ X → X ≤ NN → Dy (fr2 n m) X
theorem dy_bd {n m X : Int} (hm : 0 < m) (g : Int.gcd n m = 1) (e : n * NN = X * m) (h0 : 0 ≤ X) (h1 : X ≤ NN) : Bd 92 n ∧ Bd 92 m ∧ 0 ≤ n ∧ n ≤ m := by
  have d : m ∣ NN := dvd_co g ⟨X, by rw [e, Int.mul_comm]⟩
  have l := Int.le_of_dvd n_pos d
  have n90 : (NN : Int) = 2 ^ 90 := by decide
  have k0 : 0 ≤ n * NN := by rw [e]; exact Int.mul_nonneg h0 (by omega)
  have k1 : n * NN ≤ m * NN := by rw [e, Int.mul_comm m]; exact Int.mul_le_mul_of_nonneg_right h1 (by omega)
  have n0 : 0 ≤ n := le_cancel n_pos (by rw [Int.zero_mul]; exact k0)
  have n1 : n ≤ m := le_cancel n_pos k1
  exact ⟨⟨by omega, by omega⟩, ⟨by omega, by omega⟩, n0, n1⟩
theorem dy_start : Dy (fr2 0 1) 0 := .mk 0 1 0 (by decide) (by decide) (by decide) (by decide) (by decide)
theorem dy_end : Dy (fr2 1 1) NN := .mk 1 1 NN (by decide) (by decide) (by decide) (by decide) (by decide)
theorem fr_red' (n : Int) {d : Int} (hd : d ≠ 0) : Int.gcd (fn n d) (fd n d) = 1 := fr_red n hd
theorem middle_ok {l h : Dat} {X Y Z : Int} (s : Sto) (hl : Dy l X) (hh : Dy h Y) (e : X + Y = 2 * Z) : ∃ d, Dy d Z ∧ g_middle [l, h] s = .ok d s := by
  cases hl with
  | mk a b X b0 g1 e1 x0 x1 =>
    cases hh with
    | mk c d Y d0 g2 e2 y0 y1 =>
      obtain ⟨ba, bb, _, _⟩ := dy_bd b0 g1 e1 x0 x1
      obtain ⟨bc, bd, _, _⟩ := dy_bd d0 g2 e2 y0 y1
      have q1 := ba.ok bd (by decide) (by decide)
      have q2 := bc.ok bb (by decide) (by decide)
      have b2 : Bd 2 2 := ⟨by decide, by decide⟩
      have q3 := b2.ok bb (by decide) (by decide)
      have q4 := (b2.mul bb).ok bd (by decide) (by decide)
      have p1 := Int.mul_pos (show 0 < 2 * b by omega) d0
      have bD := (b2.mul bb).mul bd
      have hne : 2 * b * d ≠ 0 := by omega
      have fo := frac_okW (a * d + c * b) (2 * b * d) s hne (by have := bD.lo; omega) (by have := bD.hi; omega)
      have f := fr_is (a * d + c * b) hne
      refine ⟨_, .mk _ _ Z f.pos (fr_red _ hne) ?_ (by omega) (by omega), ?_⟩
      · have fe := f.eq
        have s1 : (a * d + c * b) * NN = Z * (2 * b * d) := by
          have : (a * d + c * b) * NN = a * NN * d + c * NN * b := by grind
          rw [this, e1, e2]
          have : X * b * d + Y * d * b = (X + Y) * (b * d) := by grind
          rw [this, e]
          grind
        generalize fn (a * d + c * b) (2 * b * d) = p at *
        generalize fd (a * d + c * b) (2 * b * d) = q at *
        have s2 : p * NN * (2 * b * d) = Z * q * (2 * b * d) := by
          have : p * NN * (2 * b * d) = p * (2 * b * d) * NN := by grind
          rw [this, fe]
          have : (a * d + c * b) * q * NN = (a * d + c * b) * NN * q := by grind
          rw [this, s1]
          grind
        exact Int.eq_of_mul_eq_mul_right hne s2
      · unfold g_middle F_middle
        simp [q1, q2, q3, q4, fo]
theorem dy_span {n m X : Int} (s : Sto) (hm : 0 < m) (bn : Bd 92 n) (bm : Bd 92 m) (e : n * NN = X * m) : g__law_span [fr2 n m] s = .ok (.tuple [.int X, .int (X + 1)]) s := by
  have q := bn.ok bNN (by decide) (by decide)
  have d : cDiv (n * NN) m = true := div_okW hm (by have := bm.hi; omega)
  have ex : n * NN / m = X := by rw [e]; exact Int.mul_ediv_cancel _ (by omega)
  rw [e] at d
  unfold g__law_span F__law_span
  simp [gNe, sh_root', eqv_is, pow90, q]
  rw [e]
  have ex2 : X * m / m = X := Int.mul_ediv_cancel _ (by omega)
  simp [d, ex2]
/-- no root lies at, or just behind, such a point -/
theorem dy_root {a0 a1 a2 w X : Int} (b : Bkt a0 a1 a2 w X) (h0 : 0 ≤ X) (h1 : X ≤ NN) (hd : (2 : Int) ^ 51 ∣ X) : False := by
  obtain ⟨c, rfl⟩ := hd
  have np := n_pos
  have D1 := q_near (t := 2 ^ 51 * c + 1) (u := 2 ^ 51 * c) (d := NN) (D := NN) (g := 1) b.o.b7 (by decide) (by omega) (by omega) (by omega) (by omega) (by omega) (by decide)
  have q0 := q_ne (n := c) b.o (show (2 : Int) ^ 39 ≠ 0 by decide)
  have ex : qv a0 a1 a2 (2 ^ 51 * c) NN = 2 ^ 102 * qv a0 a1 a2 c (2 ^ 39) := by
    rw [show (NN : Int) = 2 ^ 51 * 2 ^ 39 by decide]
    unfold qv
    generalize (2 : Int) ^ 39 = u
    have : (2 : Int) ^ 102 = 2 ^ 51 * 2 ^ 51 := by decide
    rw [this]
    generalize (2 : Int) ^ 51 = z
    grind
  have e := b.ends
  rw [ex] at D1 e
  have big : 1 * (635 * (NN : Int)) < 2 ^ 102 := by decide
  generalize qv a0 a1 a2 c (2 ^ 39) = Q at *
  omega
end LW

namespace LW
open PySem DL L2
/-! ### such points among the places -/
structure Cmp (s : Sto) (p d : Dat) (lt : Prop) : Prop where
  c : ∃ i j : Int, g_order_of [p, d] s = .ok (.int i) s ∧ (i < 0 ↔ lt) ∧ g__law_order [p, d] s = .ok (.int j) s ∧ (j < 0 ↔ lt)
theorem fr_dy {n m a b X : Int} (hm : 0 < m) (bm : Bd 9 m) (hb : 0 < b) (e : a * NN = X * b) (hd : (2 : Int) ^ 51 ∣ X) : (n * b - a * m < 0 ↔ n * NN / m < X) ∧ (a * m - n * b < 0 ↔ X < n * NN / m) := by
  have e1 := Int.ediv_mul_le (n * NN) (show m ≠ 0 by omega)
  have e2 := Int.lt_ediv_add_one_mul_self (n * NN) hm
  have bm' := bm.hi
  have id1 : (n * b - a * m) * NN = (n * NN - X * m) * b := by
    have : (n * b - a * m) * NN = n * NN * b - a * NN * m := by grind
    rw [this, e]
    grind
  have s1 : Int.sign (n * b - a * m) = Int.sign (n * NN - X * m) := sign_of_eq n_pos hb id1
  have c1 : n * b - a * m < 0 ↔ n * NN < X * m := by
    rw [← Int.sign_neg_iff, s1, Int.sign_neg_iff]; omega
  have c2 : a * m - n * b < 0 ↔ X * m < n * NN := by
    have : a * m - n * b = -(n * b - a * m) := by omega
    rw [this, ← Int.sign_neg_iff, Int.sign_neg, s1, ← Int.sign_neg, Int.sign_neg_iff]; omega
  rw [c1, c2]
  obtain ⟨c, hc⟩ := hd
  have key : n * NN - X * m = 2 ^ 51 * (n * 2 ^ 39 - c * m) := by
    rw [hc, show (NN : Int) = 2 ^ 51 * 2 ^ 39 by decide]
    grind
  generalize n * NN / m = K at *
  have f3 : (K + 1) * m = K * m + m := by grind
  constructor
  · constructor
    · intro h
      exact lt_cancel hm (show K * m < X * m by omega)
    · intro h
      have := Int.mul_le_mul_of_nonneg_right (show K + 1 ≤ X by omega) (show 0 ≤ m by omega)
      omega
  · constructor
    · intro h
      apply Int.lt_of_not_ge
      intro z
      have := Int.mul_le_mul_of_nonneg_right (show K ≤ X by omega) (show 0 ≤ m by omega)
      omega
    · intro h
      have := Int.mul_le_mul_of_nonneg_right (show X + 1 ≤ K by omega) (show 0 ≤ m by omega)
      have : (X + 1) * m = X * m + m := by grind
      omega
theorem dy_side {a0 a1 a2 w L a b X : Int} (k : Bkt a0 a1 a2 w L) (hb : 0 < b) (e : a * NN = X * b) : Rt a0 a1 a2 w a b ↔ L < X := by
  have a2p := k.o.pos
  have t1 := tst_rt'.mp k.t1
  have t2 := tst_rt.mp k.t2
  constructor
  · intro r
    apply Int.lt_of_not_ge
    intro z
    exact t1 (rt_mono a2p hb n_pos (by rw [e]; exact Int.mul_le_mul_of_nonneg_right z (by omega)) r)
  · intro h
    exact rt_mono a2p n_pos hb (by rw [e]; exact Int.mul_le_mul_of_nonneg_right (show L + 1 ≤ X by omega) (by omega)) t2
theorem order_dy {p d : Dat} {K X : Int} (s : Sto) (hp : Pk p K) (hd : Dy d X) (h51 : (2 : Int) ^ 51 ∣ X) : Cmp s p d (K < X) ∧ Cmp s d p (X < K) := by
  cases hd with
  | mk a b X hb g e x0 x1 =>
    obtain ⟨ba, bb, _, _⟩ := dy_bd hb g e x0 x1
    cases hp with
    | fr n m hm bn bm g' =>
      obtain ⟨f1, f2⟩ := fr_dy (n := n) hm bm hb e h51
      have bn' := bn.mono (show 9 ≤ 100 by decide)
      have bm' := bm.mono (show 9 ≤ 100 by decide)
      have ba' := ba.mono (show 92 ≤ 100 by decide)
      have bb' := bb.mono (show 92 ≤ 100 by decide)
      have c1 := compare_okW s bn' bm' ba' bb'
      have c2 := compare_okW s ba' bb' bn' bm'
      have q1 := bn'.ok bb' (by decide) (by decide)
      have q2 := ba'.ok bm' (by decide) (by decide)
      have l1 := lsign_ok (n * b - a * m) s
      have l2 := lsign_ok (a * m - n * b) s
      refine ⟨⟨⟨Int.sign (n * b - a * m), Int.sign (n * b - a * m), ?_, by rw [Int.sign_neg_iff]; exact f1, ?_, by rw [Int.sign_neg_iff]; exact f1⟩⟩, ⟨⟨Int.sign (a * m - n * b), Int.sign (a * m - n * b), ?_, by rw [Int.sign_neg_iff]; exact f2, ?_, by rw [Int.sign_neg_iff]; exact f2⟩⟩⟩
      · unfold g_order_of F_order_of
        simp [gNe, sh_root', eqv_is, c1]
      · unfold g__law_order F__law_order
        by_cases h : n = a ∧ m = b
        · obtain ⟨rfl, rfl⟩ := h
          simp [gEq, shaped_fr2, eqv_fr2]
        · have h2 : n = a → ¬ m = b := fun x y => h ⟨x, y⟩
          by_cases e : n = a
          · have e2 := h2 e
            subst e
            simp [gEq, gNe, shaped_fr2, eqv_fr2, e2, sh_root', eqv_is, q1, q2, l1]
          · simp [gEq, gNe, shaped_fr2, eqv_fr2, e, sh_root', eqv_is, q1, q2, l1]
      · unfold g_order_of F_order_of
        simp [gNe, sh_root', eqv_is, c2]
      · unfold g__law_order F__law_order
        by_cases h : a = n ∧ b = m
        · obtain ⟨rfl, rfl⟩ := h
          simp [gEq, shaped_fr2, eqv_fr2]
        · have h2 : a = n → ¬ b = m := fun x y => h ⟨x, y⟩
          by_cases e : a = n
          · have e2 := h2 e
            subst e
            simp [gEq, gNe, shaped_fr2, eqv_fr2, e2, sh_root', eqv_is, q1, q2, l2]
          · simp [gEq, gNe, shaped_fr2, eqv_fr2, e, sh_root', eqv_is, q1, q2, l2]
    | rt a0 a1 a2 w L k bL g' =>
      have ds := dy_side k hb e
      obtain ⟨so1, so2⟩ := side_okW (w := w) s k.o k.hw hb ba bb
      have l1 := dy_span s hb ba bb e
      have l2 := span_is k s
      have ne : K ≠ X := fun z => by subst z; exact dy_root k x0 x1 h51
      by_cases r : Rt a0 a1 a2 w a b
      · have h := ds.mp r
        refine ⟨⟨⟨-1, -1, ?_, by omega, ?_, by omega⟩⟩, ⟨⟨1, 1, ?_, by omega, ?_, by omega⟩⟩⟩
        · unfold g_order_of F_order_of
          simp [gNe, gEq, sh_root', eqv_is, eqv_ss, shaped_fr2, shaped_root, eqv_root_fr, so1 r]
        · unfold g__law_order F__law_order
          simp [gNe, gEq, sh_root', eqv_is, eqv_ss, shaped_fr2, shaped_root, eqv_root_fr, l1, l2, show K + (K + 1) < X + (X + 1) by omega]
        · unfold g_order_of F_order_of
          simp [gNe, gEq, sh_root', eqv_is, eqv_ss, shaped_fr2, shaped_root, eqv_fr_root, so1 r]
        · unfold g__law_order F__law_order
          simp [gNe, gEq, sh_root', eqv_is, eqv_ss, shaped_fr2, shaped_root, eqv_fr_root, l1, l2, show ¬ X + (X + 1) < K + (K + 1) by omega]
      · have h : ¬ K < X := fun z => r (ds.mpr z)
        refine ⟨⟨⟨1, 1, ?_, by omega, ?_, by omega⟩⟩, ⟨⟨-1, -1, ?_, by omega, ?_, by omega⟩⟩⟩
        · unfold g_order_of F_order_of
          simp [gNe, gEq, sh_root', eqv_is, eqv_ss, shaped_fr2, shaped_root, eqv_root_fr, so2 r]
        · unfold g__law_order F__law_order
          simp [gNe, gEq, sh_root', eqv_is, eqv_ss, shaped_fr2, shaped_root, eqv_root_fr, l1, l2, show ¬ K + (K + 1) < X + (X + 1) by omega]
        · unfold g_order_of F_order_of
          simp [gNe, gEq, sh_root', eqv_is, eqv_ss, shaped_fr2, shaped_root, eqv_fr_root, so2 r]
        · unfold g__law_order F__law_order
          simp [gNe, gEq, sh_root', eqv_is, eqv_ss, shaped_fr2, shaped_root, eqv_fr_root, l1, l2, show X + (X + 1) < K + (K + 1) by omega]
/-! ### between -/
theorem pow_split {j k : Nat} (h : j ≤ k) : (2 : Int) ^ k = 2 ^ j * 2 ^ (k - j) := by
  rw [← Int.pow_add]
  congr 1
  omega
theorem pow_mono {j k : Nat} (h : j ≤ k) : (2 : Int) ^ j ≤ 2 ^ k := by
  rw [pow_split h]
  have a : (0 : Int) < 2 ^ j := Int.pow_pos (by decide)
  have b : (0 : Int) < 2 ^ (k - j) := Int.pow_pos (by decide)
  have := Int.mul_le_mul_of_nonneg_left (show 1 ≤ (2 : Int) ^ (k - j) by omega) (show 0 ≤ (2 : Int) ^ j by omega)
  omega
theorem pow_dvd {j k : Nat} (h : j ≤ k) : (2 : Int) ^ j ∣ 2 ^ k := ⟨_, pow_split h⟩
theorem pow_dvd_add {X : Int} {j : Nat} (h : (2 : Int) ^ (j + 1) ∣ X) : (2 : Int) ^ j ∣ X ∧ (2 : Int) ^ j ∣ X + 2 ^ j := by
  have h1 : (2 : Int) ^ j ∣ X := Int.dvd_trans ⟨2, by rw [Int.pow_succ]⟩ h
  exact ⟨h1, Int.dvd_add h1 (Int.dvd_refl _)⟩
theorem between_loop {p q : Dat} {K L : Int} (hp : Pk p K) (hq : Pk q L) (hKL : K < L) (s : Sto) : ∀ (k : Nat) (l h : Dat) (X : Int) (x4 : Slt), Dy l X → Dy h (X + 2 ^ k) → (2 : Int) ^ k ∣ X → 0 ≤ X → X + 2 ^ k ≤ NN → X ≤ K → L ≤ X + 2 ^ k →
    ∃ d Z, Dy d Z ∧ (2 : Int) ^ 51 ∣ Z ∧ K < Z ∧ Z < L ∧ sWhile C1_between B1_between [.fz p, .fz q, .fz l, .fz h, x4] s = .rt d s := by
  intro k
  induction k with
  | zero =>
    intro l h X x4 _ _ _ h0 h1 h2 h3
    simp at h1 h3
    have := sep hp hq hKL (by omega) (by omega)
    omega
  | succ k ih =>
    intro l h X x4 dl dh dv h0 h1 h2 h3
    have ps : (2 : Int) ^ (k + 1) = 2 ^ k + 2 ^ k := by rw [Int.pow_succ]; omega
    have pp : (0 : Int) < 2 ^ k := Int.pow_pos (by decide)
    rw [ps] at dh h1 h3
    have hk : 51 ≤ k := by
      apply Nat.le_of_not_lt
      intro z
      have hs := sep hp hq hKL (by omega) (by omega)
      have : (2 : Int) ^ (k + 1) ≤ 2 ^ 51 := pow_mono (by omega)
      omega
    obtain ⟨dv1, dv2⟩ := pow_dvd_add dv
    have d51 : (2 : Int) ^ 51 ∣ X + 2 ^ k := Int.dvd_trans (pow_dvd hk) dv2
    obtain ⟨d, hd, em⟩ := middle_ok s dl dh (Z := X + 2 ^ k) (by omega)
    obtain ⟨⟨i, _, o1, i1, _, _⟩, ⟨j, _, o2, j1, _, _⟩⟩ := order_dy s hp hd d51 |>.imp Cmp.c fun _ => (order_dy s hq hd d51).2.c
    rw [while_step]
    by_cases c1 : K < X + 2 ^ k
    · have i0 := i1.mpr c1
      by_cases c2 : X + 2 ^ k < L
      · have j0 := j1.mpr c2
        refine ⟨d, X + 2 ^ k, hd, d51, c1, c2, ?_⟩
        simp [C1_between, B1_between, em, o1, o2, show ¬ 0 ≤ i by omega, show ¬ 0 ≤ j by omega]
      · have j0 : ¬ j < 0 := fun z => c2 (j1.mp z)
        obtain ⟨d', Z, g1, g2, g3, g4, g5⟩ := ih l d X (.fz d) dl hd dv1 h0 (by omega) h2 (by omega)
        refine ⟨d', Z, g1, g2, g3, g4, ?_⟩
        simp [C1_between, B1_between, em, o1, o2, show ¬ 0 ≤ i by omega, show 0 ≤ j by omega, g5]
    · have i0 : ¬ i < 0 := fun z => c1 (i1.mp z)
      have dh' : Dy h (X + 2 ^ k + 2 ^ k) := by rw [Int.add_assoc]; exact dh
      obtain ⟨d', Z, g1, g2, g3, g4, g5⟩ := ih d h (X + 2 ^ k) (.fz d) hd dh' dv2 (by omega) (by omega) (by omega) (by omega)
      refine ⟨d', Z, g1, g2, g3, g4, ?_⟩
      simp [C1_between, B1_between, em, o1, show 0 ≤ i by omega, g5]
theorem between_ok {p q : Dat} {K L : Int} (hp : Pk p K) (hq : Pk q L) (hKL : K < L) (h0 : 0 ≤ K) (h1 : L ≤ NN) (s : Sto) : ∃ d Z, Dy d Z ∧ (2 : Int) ^ 51 ∣ Z ∧ K < Z ∧ Z < L ∧ g_between [p, q] s = .ok d s := by
  have e : (0 : Int) + 2 ^ 90 = NN := by decide
  obtain ⟨d, Z, g1, g2, g3, g4, g5⟩ := between_loop hp hq hKL s 90 (fr2 0 1) (fr2 1 1) 0 .un dy_start (by rw [e]; exact dy_end) (Int.dvd_zero _) (by decide) (by rw [e]; omega) h0 (by rw [e]; exact h1)
  refine ⟨d, Z, g1, g2, g3, g4, ?_⟩
  unfold g_between F_between
  simp [g5]
/-- what lies inside -/
theorem dy_place {d : Dat} {X : Int} (s : Sto) (hd : Dy d X) (h51 : (2 : Int) ^ 51 ∣ X) (h0 : 0 < X) (h1 : X < NN) : g_is_place [d] s = .ok (.bool true) s ∧ g__law_in [d] s = .ok (.bool true) s := by
  obtain ⟨⟨_, j, _, _, l1, j1⟩⟩ := (order_dy s pk_start hd h51).1
  obtain ⟨⟨_, i, _, _, l2, i1⟩⟩ := (order_dy s pk_end hd h51).2
  have j0 := j1.mpr h0
  have i0 := i1.mpr h1
  constructor
  · cases hd with
    | mk a b X hb g e x0 x1 =>
      obtain ⟨ba, bb, a0, ab⟩ := dy_bd hb g e x0 x1
      have ba' := ba.mono (show 92 ≤ 100 by decide)
      have bb' := bb.mono (show 92 ≤ 100 by decide)
      have f := is_frac_ok s hb g
      have c1 := compare_okW (a := 0) (b := 1) s ⟨by decide, by decide⟩ ⟨by decide, by decide⟩ ba' bb'
      have c2 := compare_okW (c := 1) (d := 1) s ba' bb' ⟨by decide, by decide⟩ ⟨by decide, by decide⟩
      have ap : 0 < a := by
        have := Int.mul_pos h0 hb
        rw [← e] at this
        exact pos_of_mul n_pos this
      have lt : a < b := by
        have := Int.mul_lt_mul_of_pos_right h1 hb
        rw [← e] at this
        exact lt_cancel n_pos (by rw [Int.mul_comm b]; exact this)
      rw [Int.sign_eq_neg_one_of_neg (show 0 * b - a * 1 < 0 by omega)] at c1
      rw [Int.sign_eq_neg_one_of_neg (show a * 1 - 1 * b < 0 by omega)] at c2
      unfold g_is_place F_is_place
      simp [f, c1, c2]
  · unfold g__law_in F__law_in
    simp [l1, l2, j0, i0]
end LW

namespace LW
open PySem DL L2
/-! ### cells -/
inductive Cell where
  | at_ (x : Dat × Int)
  | bt (x y : Dat × Int)
abbrev atD (p : Dat) : Dat := .tuple [.str "at", p]
abbrev btD (p q : Dat) : Dat := .tuple [.str "between", p, q]
def cdat : Cell → Dat
  | .at_ x => atD x.1
  | .bt x y => btD x.1 y.1
abbrev endP : Dat × Int := (fr2 1 1, NN)
abbrev startP : Dat × Int := (fr2 0 1, 0)
def cells (h : Dat × Int) : PL → List Cell
  | [] => [.bt h endP]
  | x :: L => .bt h x :: .at_ x :: cells x L
def pre (h : Dat) : List Dat → List Dat
  | [] => []
  | x :: L => btD h x :: atD x :: pre x L
def lastD (h : Dat) : List Dat → Dat
  | [] => h
  | x :: L => lastD x L
theorem cells_dat : ∀ (h : Dat × Int) (L : PL), (cells h L).map cdat = pre h.1 (fsts L) ++ [btD (lastD h.1 (fsts L)) (fr2 1 1)]
  | h, [] => rfl
  | h, x :: L => by
    simp only [cells, List.map_cons, fsts_cons, pre, lastD, List.cons_append, cells_dat x L]
    rfl
theorem pre_len : ∀ (h : Dat) (ds : List Dat), (pre h ds).length = 2 * ds.length
  | h, [] => rfl
  | h, d :: ds => by simp only [pre, List.length_cons, pre_len d ds]; omega
theorem cells_in : ∀ (ds : List Dat) (acc : List Dat) (x0 x3 : Slt) (h : Dat) (s : Sto), acc.length + 2 * ds.length < 1000000 → ∃ y3,
    forL (gSet 3) B1_cells_of ds [x0, .ow acc, .fz h, x3] s = .nx [x0, .ow (acc ++ pre h ds), .fz (lastD h ds), y3] s := by
  intro ds
  induction ds with
  | nil => intro acc x0 x3 h s _; exact ⟨x3, by simp [pre, lastD]⟩
  | cons d ds ih =>
    intro acc x0 x3 h s hn
    simp only [List.length_cons] at hn
    obtain ⟨y3, e⟩ := ih (acc ++ [btD h d, atD d]) x0 (.fz d) d s (by simp; omega)
    refine ⟨y3, ?_⟩
    have ea : acc ++ pre h (d :: ds) = acc ++ [btD h d, atD d] ++ pre d ds := by simp [pre]
    have el : lastD h (d :: ds) = lastD d ds := rfl
    rw [ea, el]
    simp only [forL]
    simp [-forL, B1_cells_of, show acc.length + 2 ≤ 16777216 by omega, e]
theorem due_in : ∀ (ds : List Dat) (acc : List Dat) (h : Dat) (x0 x1 x2 x3 x6 x7 x8 x9 x10 x11 : Slt) (s : Sto), acc.length + 2 * ds.length < 1000000 → ∃ y6,
    forL (gSet 6) B3_law ds [x0, x1, x2, x3, .ow acc, .fz h, x6, x7, x8, x9, x10, x11] s = .nx [x0, x1, x2, x3, .ow (acc ++ pre h ds), .fz (lastD h ds), y6, x7, x8, x9, x10, x11] s := by
  intro ds
  induction ds with
  | nil => intro acc h x0 x1 x2 x3 x6 x7 x8 x9 x10 x11 s _; exact ⟨x6, by simp [pre, lastD]⟩
  | cons d ds ih =>
    intro acc h x0 x1 x2 x3 x6 x7 x8 x9 x10 x11 s hn
    simp only [List.length_cons] at hn
    obtain ⟨y6, e⟩ := ih (acc ++ [btD h d, atD d]) d x0 x1 x2 x3 (.fz d) x7 x8 x9 x10 x11 s (by simp; omega)
    refine ⟨y6, ?_⟩
    have ea : acc ++ pre h (d :: ds) = acc ++ [btD h d, atD d] ++ pre d ds := by simp [pre]
    have el : lastD h (d :: ds) = lastD d ds := rfl
    rw [ea, el]
    simp only [forL]
    simp [-forL, B3_law, show acc.length + 2 ≤ 16777216 by omega]
    simp only [List.append_assoc, List.cons_append, List.nil_append] at e
    exact e
/-- a cell whose ends lie as they should -/
inductive COk : Cell → Prop where
  | at_ (x : Dat × Int) : Pk x.1 x.2 → 0 < x.2 → x.2 < NN → COk (.at_ x)
  | bt (x y : Dat × Int) : Pk x.1 x.2 → Pk y.1 y.2 → x.2 < y.2 → 0 ≤ x.2 → y.2 ≤ NN → COk (.bt x y)
theorem cells_ok : ∀ (L : PL) (h : Dat × Int), Pk h.1 h.2 → 0 ≤ h.2 → h.2 < NN → Up L → AllPk L → (∀ x, x ∈ L → h.2 < x.2 ∧ x.2 < NN) → ∀ c, c ∈ cells h L → COk c
  | [], h, hp, h0, h1, _, _, _, c, hc => by
    rw [List.mem_singleton.mp hc]
    exact .bt _ _ hp pk_end h1 h0 (Int.le_refl _)
  | x :: L, h, hp, h0, h1, hu, ha, hb, c, hc => by
    have px := ha x (by simp)
    have bx := hb x (by simp)
    have pc := List.pairwise_cons.mp hu
    rcases List.mem_cons.mp hc with g | g
    · rw [g]; exact .bt _ _ hp px bx.1 h0 (by omega)
    · rcases List.mem_cons.mp g with g | g
      · rw [g]; exact .at_ _ px (by omega) bx.2
      · exact cells_ok L x px (by omega) bx.2 pc.2 (fun y hy => ha y (List.mem_cons_of_mem _ hy)) (fun y hy => ⟨pc.1 y hy, (hb y (List.mem_cons_of_mem _ hy)).2⟩) c g
theorem sh_at : SeqAt.shaped (.str (Str.ofString "at")) = true := by decide +kernel
theorem sh_bt : SeqAt.shaped (.str (Str.ofString "between")) = true := by decide +kernel
theorem eq_ab : PyData.eqv (.str (Str.ofString "at")) (.str (Str.ofString "between")) = false := by decide +kernel
theorem eq_ba : PyData.eqv (.str (Str.ofString "between")) (.str (Str.ofString "at")) = false := by decide +kernel
theorem lay_at : (PyData.str (Str.ofString "at")).canLay0 = true := by decide +kernel
theorem lay_bt : (PyData.str (Str.ofString "between")).canLay0 = true := by decide +kernel
theorem c_lay {c : Cell} (h : COk c) : (cdat c).canLay0 = true ∧ (cdat c).depth ≤ 30 ∧ PyData.eqv (cdat c) (cdat c) = true := by
  cases h with
  | at_ x px _ _ =>
    have a := pk_lay px
    refine ⟨?_, ?_, ?_⟩
    · simp [cdat, PyData.canLay0, PyData.canLayAll0, a.1]
      try exact lay_at
    · simp [cdat, PyData.depth, PyData.depthAll]; omega
    · simp [cdat, PyData.eqv, PyData.eqvAll, pk_refl px]
  | bt x y px py _ _ _ =>
    have a := pk_lay px
    have b := pk_lay py
    refine ⟨?_, ?_, ?_⟩
    · simp [cdat, PyData.canLay0, PyData.canLayAll0, a.1, b.1]
      try exact lay_bt
    · simp [cdat, PyData.depth, PyData.depthAll]; omega
    · simp [cdat, PyData.eqv, PyData.eqvAll, pk_refl px, pk_refl py]
theorem cs_lay : ∀ (cs : List Cell), (∀ c, c ∈ cs → COk c) → PyData.canLayAll0 (cs.map cdat) = true ∧ PyData.depthAll (cs.map cdat) ≤ 30 ∧ PyData.eqvAll (cs.map cdat) (cs.map cdat) = true
  | [], _ => by simp [PyData.canLayAll0, PyData.depthAll, PyData.eqvAll]
  | c :: cs, h => by
    have a := c_lay (h c (by simp))
    have b := cs_lay cs fun d hd => h d (List.mem_cons_of_mem _ hd)
    rw [List.map_cons]
    refine ⟨?_, ?_, ?_⟩
    · simp [PyData.canLayAll0, a.1, b.1]
    · simp [PyData.depthAll]; omega
    · simp [PyData.eqvAll, a.2.2, b.2.2]
theorem cs_sh (cs : List Cell) (h : ∀ c, c ∈ cs → COk c) : SeqAt.shaped (.list (cs.map cdat)) = true ∧ PyData.eqv (.list (cs.map cdat)) (.list (cs.map cdat)) = true := by
  obtain ⟨a, b, c⟩ := cs_lay cs h
  constructor
  · unfold SeqAt.shaped
    simp [PyData.canLay0, PyData.depth, a]
    omega
  · simp [PyData.eqv, c]
end LW

namespace LW
open PySem DL L2
def Polys (l : List Dat) : Prop := ∀ d ∈ l, ∃ a b c, Pb 7 a b c ∧ Prim3 a b c ∧ d = pl a b c
theorem polys_k {l : List Dat} (h : Polys l) (s : Sto) : ∃ Kf, RK s Kf l := by
  have : ∀ d, ∃ K, d ∈ l → PR s d K := fun d => by
    by_cases hd : d ∈ l
    · obtain ⟨a, b, c, bp, pr, rfl⟩ := h d hd
      obtain ⟨K, hK⟩ := roots_pk bp pr s
      exact ⟨K, fun _ => hK⟩
    · exact ⟨[], fun z => absurd z hd⟩
  exact ⟨fun d => (this d).choose, fun d hd => (this d).choose_spec hd⟩
theorem polys_drawn (cs : List Int) (x0 x2 x3 x4 x5 x6 x7 x8 x9 x10 x11 : Slt) : ∀ (ks : List Dat) (k : Int), 0 ≤ k → k + 8 * ks.length < 2 ^ 39 → ∃ Ps k', Polys Ps ∧ Ps.length = ks.length ∧ k ≤ k' ∧ k' ≤ k + 8 * ks.length ∧
    lcL (gSet 9) cYes E1_law [x0, .fz (cel 0), x2, x3, x4, x5, x6, x7, x8, x9, x10, x11] ks (dst cs k) = .ok Ps (dst cs k') ∧ lcL (gSet 9) cYes E2_law [x0, .fz (cel 0), x2, x3, x4, x5, x6, x7, x8, x9, x10, x11] ks (dst cs k) = .ok Ps (dst cs k') := by
  intro ks
  induction ks with
  | nil => intro k _ _; exact ⟨[], k, fun d hd => by simp at hd, rfl, by omega, by simp, by simp, by simp⟩
  | cons d ks ih =>
    intro k h0 h1
    simp only [List.length_cons] at h1
    obtain ⟨a, b, c, k1, q1, q2, bp, pr, e⟩ := law_poly_ok 12 (by decide) (by decide) cs k h0 (by omega)
    obtain ⟨Ps, k', hP, hl, q3, q4, e2, e3⟩ := ih k1 (by omega) (by omega)
    refine ⟨pl a b c :: Ps, k', fun d hd => ?_, by simp [hl], by omega, by simp only [List.length_cons]; omega, ?_, ?_⟩
    · rcases List.mem_cons.mp hd with g | g
      · exact ⟨a, b, c, bp, pr, g⟩
      · exact hP d g
    · unfold dst at *
      simp [E1_law, e, e2]
    · unfold dst at *
      simp [E2_law, e, e3]
/-! which polynomials are still -/
def inCell (x y : Dat × Int) (z : Dat × Int) : Bool := decide (x.2 < z.2) && decide (z.2 < y.2)
theorem still_loop {x y : Dat × Int} (px : Pk x.1 x.2) (py : Pk y.1 y.2) (s : Sto) : ∀ (K : PL) (x0 x2 : Slt), AllPk K → ∃ e',
    (K.any (inCell x y) = false → forL (gSet 2) B1_is_still (fsts K) [x0, .fz (btD x.1 y.1), x2] s = .nx e' s) ∧ (K.any (inCell x y) = true → forL (gSet 2) B1_is_still (fsts K) [x0, .fz (btD x.1 y.1), x2] s = .rt (.bool false) s) := by
  intro K
  induction K with
  | nil => intro x0 x2 _; exact ⟨[x0, .fz (btD x.1 y.1), x2], by simp, by simp⟩
  | cons z K ih =>
    intro x0 x2 h
    have pz := h z (by simp)
    obtain ⟨e', e1, e2⟩ := ih x0 (.fz z.1) fun w hw => h w (List.mem_cons_of_mem _ hw)
    have o1 := (order_ok s px pz).1
    have o2 := (order_ok s pz py).1
    refine ⟨e', ?_, ?_⟩
    · intro hn
      rw [List.any_cons] at hn
      have hn1 : inCell x y z = false := by cases q : inCell x y z <;> simp [q] at hn ⊢
      have hn2 : K.any (inCell x y) = false := by rw [hn1] at hn; simpa using hn
      by_cases a : x.2 < z.2
      · have b : ¬ z.2 < y.2 := fun b => by simp [inCell, a, b] at hn1
        have nb : ¬ Int.sign (z.2 - y.2) < 0 := by rw [Int.sign_neg_iff]; omega
        rw [sign_lt a] at o1
        simp [-Int.not_lt, B1_is_still, o1, o2, nb, e1 hn2]
      · have na : ¬ Int.sign (x.2 - z.2) < 0 := by rw [Int.sign_neg_iff]; omega
        simp [-Int.not_lt, B1_is_still, o1, na, e1 hn2]
    · intro hy
      rw [List.any_cons] at hy
      by_cases a : x.2 < z.2
      · rw [sign_lt a] at o1
        by_cases b : z.2 < y.2
        · rw [sign_lt b] at o2
          simp [B1_is_still, o1, o2]
        · have nb : ¬ Int.sign (z.2 - y.2) < 0 := by rw [Int.sign_neg_iff]; omega
          have : K.any (inCell x y) = true := by simpa [inCell, a, b] using hy
          simp [-Int.not_lt, B1_is_still, o1, o2, nb, e2 this]
      · have na : ¬ Int.sign (x.2 - z.2) < 0 := by rw [Int.sign_neg_iff]; omega
        have : K.any (inCell x y) = true := by simpa [inCell, a] using hy
        simp [-Int.not_lt, B1_is_still, o1, na, e2 this]
def still (K : PL) : Cell → Bool
  | .at_ _ => true
  | .bt x y => !K.any (inCell x y)
theorem is_still_ok {d : Dat} {K : PL} {c : Cell} (s : Sto) (hK : PR s d K) (hc : COk c) : g_is_still [d, cdat c] s = .ok (.bool (still K c)) s := by
  have eg := hK.r
  change g_roots [d] s = .ok (.list (fsts K)) s at eg
  cases hc with
  | at_ x px _ _ =>
    unfold g_is_still F_is_still
    simp [cdat, gEq, sh_at, eqv_ss, still]
  | bt x y px py _ _ _ =>
    obtain ⟨e', e1, e2⟩ := still_loop px py s K (.fz d) .un hK.k
    unfold g_is_still F_is_still
    cases q : K.any (inCell x y) with
    | false =>
      have := e1 q
      simp [-forL, cdat, gEq, sh_at, sh_bt, eq_ba, still, q, eg, this]
    | true =>
      have := e2 q
      simp [-forL, cdat, gEq, sh_at, sh_bt, eq_ba, still, q, eg, this]
theorem inside_ok {c : Cell} (hc : COk c) (s : Sto) (x0 x1 x2 x3 x4 x5 x6 x8 x9 x10 : Slt) : ∀ K : PL, AllPk K → ∃ F : PL, AllPk F ∧ F.isEmpty = still K c ∧ F.length ≤ K.length ∧
    lcL (gSet 11) C4_law E4_law [x0, x1, x2, x3, x4, x5, x6, .fz (cdat c), x8, x9, x10, .un] (fsts K) s = .ok (fsts F) s
  | [], _ => by
    refine ⟨[], fun x hx => by simp at hx, ?_, Nat.le_refl _, by simp⟩
    cases c <;> simp [still]
  | z :: K, h => by
    obtain ⟨F, f1, f2, f4, f3⟩ := inside_ok hc s x0 x1 x2 x3 x4 x5 x6 x8 x9 x10 K fun y hy => h y (List.mem_cons_of_mem _ hy)
    have pz := h z (by simp)
    cases hc with
    | at_ x px _ _ =>
      refine ⟨F, f1, by rw [f2]; rfl, by simp only [List.length_cons]; omega, ?_⟩
      simp [C4_law, cdat, gEq, sh_at, sh_bt, eq_ab] at f3 ⊢
      exact f3
    | bt x y px py _ _ _ =>
      have o1 := (order_ok s px pz).2.1
      have o2 := (order_ok s pz py).2.1
      by_cases a : x.2 < z.2
      · rw [sign_lt a] at o1
        by_cases b : z.2 < y.2
        · rw [sign_lt b] at o2
          refine ⟨z :: F, fun w hw => ?_, by simp [still, inCell, a, b], by simp only [List.length_cons]; omega, ?_⟩
          · rcases List.mem_cons.mp hw with g | g
            · rw [g]; exact pz
            · exact f1 w g
          · simp [C4_law, E4_law, cdat, gEq, sh_bt, eqv_ss, o1, o2] at f3 ⊢
            simp [f3]
        · have nb : ¬ Int.sign (z.2 - y.2) < 0 := by rw [Int.sign_neg_iff]; omega
          refine ⟨F, f1, by rw [f2]; simp [still, inCell, a, b], by simp only [List.length_cons]; omega, ?_⟩
          simp [-Int.not_lt, C4_law, E4_law, cdat, gEq, sh_bt, eqv_ss, o1, o2, nb] at f3 ⊢
          exact f3
      · have na : ¬ Int.sign (x.2 - z.2) < 0 := by rw [Int.sign_neg_iff]; omega
        refine ⟨F, f1, by rw [f2]; simp [still, inCell, a], by simp only [List.length_cons]; omega, ?_⟩
        simp [-Int.not_lt, C4_law, E4_law, cdat, gEq, sh_bt, eqv_ss, o1, na] at f3 ⊢
        exact f3
theorem polys_loop {c : Cell} (hc : COk c) (s : Sto) (Kf : Dat → PL) : ∀ (ds : List Dat) (x0 x1 x2 x3 x4 x5 x6 x8 x9 x10 : Slt), RK s Kf ds → ∃ y8 y10,
    forL (gSet 8) B5_law ds [x0, x1, x2, x3, x4, x5, x6, .fz (cdat c), x8, x9, x10, .un] s = .nx [x0, x1, x2, x3, x4, x5, x6, .fz (cdat c), y8, x9, y10, .un] s := by
  intro ds
  induction ds with
  | nil => intro x0 x1 x2 x3 x4 x5 x6 x8 x9 x10 _; exact ⟨x8, x10, by simp⟩
  | cons d ds ih =>
    intro x0 x1 x2 x3 x4 x5 x6 x8 x9 x10 h
    have hd := h d (by simp)
    have st := is_still_ok s hd hc
    obtain ⟨F, f1, f2, f4, f3⟩ := inside_ok hc s x0 x1 x2 x3 x4 x5 x6 (.fz d) x9 x10 (Kf d) hd.k
    have el := hd.l
    change g__law_roots [d] s = .ok (.list (fsts (Kf d))) s at el
    have kn := hd.n
    have sf := list_sh F f1
    have s0 : SeqAt.shaped (.list []) = true := by decide +kernel
    have ev : PyData.eqv (.list (fsts F)) (.list []) = F.isEmpty := by
      cases F <;> simp [PyData.eqv, PyData.eqvAll]
    rw [f2] at ev
    obtain ⟨y8, y10, e⟩ := ih x0 x1 x2 x3 x4 x5 x6 (.fz d) x9 (.fz (.list (fsts F))) fun x hx => h x (List.mem_cons_of_mem _ hx)
    refine ⟨y8, y10, ?_⟩
    simp only [forL]
    simp [-forL, -lcL, B5_law, el, f3, st, gNe, gEq, sf, s0, ev, show (Kf d).length < 16777216 by omega, e]
theorem cell_turn {c : Cell} (hc : COk c) (s : Sto) (Kf : Dat → PL) (Ps Qs : List Dat) (hn : Ps.length + Qs.length < 1000) (hR : RK s Kf (Ps ++ Qs)) (x0 x1 x4 x5 x6 x8 x9 x10 : Slt) : ∃ y6 y8 y10,
    B6_law [x0, x1, .fz (.list Ps), .fz (.list Qs), x4, x5, x6, .fz (cdat c), x8, x9, x10, .un] s = .nx [x0, x1, .fz (.list Ps), .fz (.list Qs), x4, x5, y6, .fz (cdat c), y8, x9, y10, .un] s := by
  cases hc with
  | at_ x px h0 h1 =>
    obtain ⟨y8, y10, e⟩ := polys_loop (.at_ x px h0 h1) s Kf (Ps ++ Qs) x0 x1 (.fz (.list Ps)) (.fz (.list Qs)) x4 x5 (.fz x.1) x8 x9 x10 hR
    have ip := is_place_ok s px
    have li := law_in_ok s px
    have ik : inK x.2 = true := by simp [inK, h0, h1]
    rw [ik] at ip li
    have o := (order_ok s px px).2.1
    rw [Int.sub_self, Int.sign_zero] at o
    refine ⟨.fz x.1, y8, y10, ?_⟩
    have sm : g_sample [atD x.1] s = .ok x.1 s := by
      unfold g_sample F_sample
      simp [gEq, sh_at, eqv_ss]
    simp [-forL, B6_law, cdat, sm, ip, li, gEq, gNe, sh_at, sh_bt, eqv_ss, eq_ab, o, show Ps.length + Qs.length ≤ 16777216 by omega] at e ⊢
    exact e
  | bt x y px py hxy h0 h1 =>
    obtain ⟨d, Z, dz, d51, z1, z2, eb⟩ := between_ok px py hxy h0 h1 s
    obtain ⟨y8, y10, e⟩ := polys_loop (.bt x y px py hxy h0 h1) s Kf (Ps ++ Qs) x0 x1 (.fz (.list Ps)) (.fz (.list Qs)) x4 x5 (.fz d) x8 x9 x10 hR
    obtain ⟨ip, li⟩ := dy_place s dz d51 (by omega) (by omega)
    obtain ⟨⟨_, i, _, _, l1, i1⟩⟩ := (order_dy s px dz d51).1
    obtain ⟨⟨_, j, _, _, l2, j1⟩⟩ := (order_dy s py dz d51).2
    have i0 := i1.mpr z1
    have j0 := j1.mpr z2
    refine ⟨.fz d, y8, y10, ?_⟩
    have sm : g_sample [btD x.1 y.1] s = .ok d s := by
      unfold g_sample F_sample
      simp [gEq, sh_at, sh_bt, eq_ba, eb]
    simp [-forL, B6_law, cdat, sm, ip, li, gEq, gNe, sh_at, sh_bt, eqv_ss, eq_ba, l1, l2, show ¬ 0 ≤ i by omega, show ¬ 0 ≤ j by omega, show Ps.length + Qs.length ≤ 16777216 by omega] at e ⊢
    exact e
theorem cells_loop (s : Sto) (Kf : Dat → PL) (Ps Qs : List Dat) (hn : Ps.length + Qs.length < 1000) (hR : RK s Kf (Ps ++ Qs)) : ∀ (cs : List Cell) (x0 x1 x4 x5 x6 x7 x8 x9 x10 : Slt), (∀ c, c ∈ cs → COk c) → ∃ e',
    forL (gSet 7) B6_law (cs.map cdat) [x0, x1, .fz (.list Ps), .fz (.list Qs), x4, x5, x6, x7, x8, x9, x10, .un] s = .nx e' s := by
  intro cs
  induction cs with
  | nil => intro x0 x1 x4 x5 x6 x7 x8 x9 x10 _; exact ⟨_, by simp; rfl⟩
  | cons c cs ih =>
    intro x0 x1 x4 x5 x6 x7 x8 x9 x10 h
    obtain ⟨y6, y8, y10, e⟩ := cell_turn (h c (by simp)) s Kf Ps Qs hn hR x0 x1 x4 x5 x6 x8 x9 x10
    obtain ⟨e', e2⟩ := ih x0 x1 x4 x5 y6 (.fz (cdat c)) y8 x9 y10 fun d hd => h d (List.mem_cons_of_mem _ hd)
    refine ⟨e', ?_⟩
    rw [List.map_cons]
    simp only [forL]
    simp [-forL, e, e2]
theorem law_true (ns : List Int) (h : ns.length ≤ 63) : ∃ s, g_law [seal_ ns] [] = .ok (.bool true) s := by
  have hcut : ∃ cs : List Int, cutD (ns.map PyData.int) none (some 63) = cs.map PyData.int := by
    unfold cutD
    exact ⟨_, by rw [← List.map_drop, ← List.map_take]⟩
  obtain ⟨cs, hcs⟩ := hcut
  obtain ⟨v, v0, v1, hv⟩ := next_ok cs 0 6 (by decide) (by decide) (by decide)
  have cv : cRng v = true := by unfold cRng; simp; omega
  have c4 : cRng 4 = true := by decide
  have lv : (ups 0 v.toNat).length = v.toNat := ups_length _ _
  have l4 : (ups 0 4).length = 4 := ups_length _ _
  obtain ⟨Ps, k1, hP, hPl, q1, q2, e1, _⟩ := polys_drawn cs (.fz (seal_ ns)) .un .un .un .un .un .un .un .un .un .un (ups 0 v.toNat) (0 + 1) (by decide) (by rw [lv]; omega)
  obtain ⟨Qs, k2, hQ, hQl, q3, q4, _, e2⟩ := polys_drawn cs (.fz (seal_ ns)) (.fz (.list Ps)) .un .un .un .un .un .un .un .un .un (ups 0 4) k1 (by omega) (by rw [l4]; rw [lv] at q2; omega)
  rw [lv] at hPl
  rw [l4] at hQl
  have hQ' : Polys (Qs ++ [pl 0 0 0, pl 1 0 0]) := fun d hd => by
    rcases List.mem_append.mp hd with g | g
    · exact hQ d g
    · simp only [List.mem_cons, List.not_mem_nil, or_false] at g
      rcases g with g | g
      · exact ⟨0, 0, 0, ⟨⟨by decide, by decide⟩, ⟨by decide, by decide⟩, ⟨by decide, by decide⟩⟩, .inr ⟨rfl, rfl, rfl⟩, g⟩
      · exact ⟨1, 0, 0, ⟨⟨by decide, by decide⟩, ⟨by decide, by decide⟩, ⟨by decide, by decide⟩⟩, .inl (by decide), g⟩
  have hA : Polys (Ps ++ (Qs ++ [pl 0 0 0, pl 1 0 0])) := fun d hd => by
    rcases List.mem_append.mp hd with g | g
    · exact hP d g
    · exact hQ' d g
  obtain ⟨Kf, hK⟩ := polys_k hA (dst cs k2)
  have hKP : RK (dst cs k2) Kf Ps := fun d hd => hK d (List.mem_append_left _ hd)
  have pa := places_of_ok (dst cs k2) Kf Ps hKP (by omega)
  have pc := law_places_ok (dst cs k2) Kf Ps hKP (by omega)
  have ln := all_len hKP
  have up := add_up (allK Kf Ps) [] List.Pairwise.nil
  have al : AllPk (addAll [] (allK Kf Ps)) := add_all _ _ (fun x hx => by simp at hx) (allK_pk hKP)
  have inn : ∀ x, x ∈ addAll [] (allK Kf Ps) → startP.2 < x.2 ∧ x.2 < NN := fun x hx => by
    have := (add_mem _ _ List.Pairwise.nil (fun x hx => by simp at hx) (allK_pk hKP) x).mp hx
    rcases this with g | ⟨_, g⟩
    · simp at g
    · unfold inK at g
      simpa using g
  have len := add_len (allK Kf Ps) []
  simp only [List.length_nil] at len
  generalize addAll [] (allK Kf Ps) = L at *
  have ok := cells_ok L startP pk_start (by decide) (by decide) up al inn
  obtain ⟨sh, ev⟩ := cs_sh (cells startP L) ok
  have cd := cells_dat startP L
  rw [cd] at sh ev
  obtain ⟨y3, ci⟩ := cells_in (fsts L) [] (.fz (.list Ps)) .un (fr2 0 1) (dst cs k2) (by simp; omega)
  rw [List.nil_append] at ci
  have co : g_cells_of [.list Ps] (dst cs k2) = .ok (.list (pre (fr2 0 1) (fsts L) ++ [btD (lastD (fr2 0 1) (fsts L)) (fr2 1 1)])) (dst cs k2) := by
    have pl := pre_len (fr2 0 1) (fsts L)
    rw [fsts_len] at pl
    unfold g_cells_of F_cells_of
    simp [-forL, pa, ci, show (pre (fr2 0 1) (fsts L)).length + 1 ≤ 16777216 by omega]
  obtain ⟨y6, du⟩ := due_in (fsts L) [] (fr2 0 1) (.fz (seal_ ns)) (.fz (cel 0)) (.fz (.list Ps)) (.fz (.list (Qs ++ [pl 0 0 0, pl 1 0 0]))) .un .un .un .un .un .un (dst cs k2) (by simp; omega)
  rw [List.nil_append] at du
  obtain ⟨e', cl⟩ := cells_loop (dst cs k2) Kf Ps (Qs ++ [pl 0 0 0, pl 1 0 0]) (by simp; omega) hK (cells startP L) (.fz (seal_ ns)) (.fz (cel 0)) (.fz (.list (pre (fr2 0 1) (fsts L) ++ [btD (lastD (fr2 0 1) (fsts L)) (fr2 1 1)]))) (.fz (lastD (fr2 0 1) (fsts L))) y6 .un .un .un .un ok
  rw [cd] at cl
  have pl := pre_len (fr2 0 1) (fsts L)
  rw [fsts_len] at pl
  have lim : v.toNat < 16777216 := by omega
  generalize pre (fr2 0 1) (fsts L) = pr at *
  generalize lastD (fr2 0 1) (fsts L) = ld at *
  refine ⟨dst cs k2, ?_⟩
  unfold dst at *
  unfold g_law F_law
  have z1 : (0 : Int) + 1 = 1 := by decide
  rw [z1] at hv e1
  simp [-forL, -lcL, hcs, hv, cv, c4, lv, l4, lim, e1, e2, hQl, pc, du, co, gNe, sh, ev, cl, show pr.length < 16777216 by omega]
end LW

namespace LW
open PySem PySem.Spec PyProof.Rows L2 DL
def topS (i : Nat) : Stmt := PySem.Challenge.pw_justthepart_k04_whole_cells.main.body.getD i (.Pass ⟨0, 0, 0, 0⟩)
abbrev s_common : Stmt := topS 1
theorem sc_common : FnScope ["a", "b"] ["a", "b"] (defScope s_common) := ⟨rfl, rfl, rfl, by decide +kernel, rfl, by decide +kernel, by decide +kernel⟩
abbrev s_frac : Stmt := topS 2
theorem sc_frac : FnScope ["n", "d", "by"] ["n", "d"] (defScope s_frac) := ⟨rfl, rfl, rfl, by decide +kernel, rfl, by decide +kernel, by decide +kernel⟩
abbrev s_is_frac : Stmt := topS 3
theorem sc_is_frac : FnScope ["thing", "one"] ["thing"] (defScope s_is_frac) := ⟨rfl, rfl, rfl, by decide +kernel, rfl, by decide +kernel, by decide +kernel⟩
abbrev s_sub : Stmt := topS 4
theorem sc_sub : FnScope ["a", "b"] ["a", "b"] (defScope s_sub) := ⟨rfl, rfl, rfl, by decide +kernel, rfl, by decide +kernel, by decide +kernel⟩
abbrev s_mul : Stmt := topS 5
theorem sc_mul : FnScope ["a", "b"] ["a", "b"] (defScope s_mul) := ⟨rfl, rfl, rfl, by decide +kernel, rfl, by decide +kernel, by decide +kernel⟩
abbrev s_div : Stmt := topS 6
theorem sc_div : FnScope ["a", "b"] ["a", "b"] (defScope s_div) := ⟨rfl, rfl, rfl, by decide +kernel, rfl, by decide +kernel, by decide +kernel⟩
abbrev s_sign_of : Stmt := topS 7
theorem sc_sign_of : FnScope ["number"] ["number"] (defScope s_sign_of) := ⟨rfl, rfl, rfl, by decide +kernel, rfl, by decide +kernel, by decide +kernel⟩
abbrev s_compare : Stmt := topS 8
theorem sc_compare : FnScope ["a", "b"] ["a", "b"] (defScope s_compare) := ⟨rfl, rfl, rfl, by decide +kernel, rfl, by decide +kernel, by decide +kernel⟩
abbrev s_middle : Stmt := topS 9
theorem sc_middle : FnScope ["a", "b"] ["a", "b"] (defScope s_middle) := ⟨rfl, rfl, rfl, by decide +kernel, rfl, by decide +kernel, by decide +kernel⟩
abbrev s_whole : Stmt := topS 11
theorem sc_whole : FnScope ["poly", "by", "n", "d", "numbers", "least", "number"] ["poly"] (defScope s_whole) := ⟨rfl, rfl, rfl, by decide +kernel, rfl, by decide +kernel, by decide +kernel⟩
abbrev s_sign_at : Stmt := topS 12
theorem sc_sign_at : FnScope ["poly", "place", "n", "d"] ["poly", "place"] (defScope s_sign_at) := ⟨rfl, rfl, rfl, by decide +kernel, rfl, by decide +kernel, by decide +kernel⟩
abbrev s_root_of : Stmt := topS 13
theorem sc_root_of : FnScope ["number", "low", "high", "mid"] ["number"] (defScope s_root_of) := ⟨rfl, rfl, rfl, by decide +kernel, rfl, by decide +kernel, by decide +kernel⟩
abbrev s_ordered : Stmt := topS 15
theorem sc_ordered : FnScope ["found"] ["found"] (defScope s_ordered) := ⟨rfl, rfl, rfl, by decide +kernel, rfl, by decide +kernel, by decide +kernel⟩
abbrev s_roots : Stmt := topS 14
theorem sc_roots : FnScope ["poly", "c0", "c1", "c2", "inner", "side", "own", "one", "other"] ["poly"] (defScope s_roots) := ⟨rfl, rfl, rfl, by decide +kernel, rfl, by decide +kernel, by decide +kernel⟩
abbrev s_rest : Stmt := topS 16
theorem sc_rest : FnScope ["poly", "own", "c0", "c1", "c2", "by"] ["poly", "own"] (defScope s_rest) := ⟨rfl, rfl, rfl, by decide +kernel, rfl, by decide +kernel, by decide +kernel⟩
abbrev s_root_side : Stmt := topS 17
theorem sc_root_side : FnScope ["root", "place", "word", "own", "which"] ["root", "place"] (defScope s_root_side) := ⟨rfl, rfl, rfl, by decide +kernel, rfl, by decide +kernel, by decide +kernel⟩
abbrev s_sign_on : Stmt := topS 18
theorem sc_sign_on : FnScope ["poly", "place", "u", "v"] ["poly", "place"] (defScope s_sign_on) := ⟨rfl, rfl, rfl, by decide +kernel, rfl, by decide +kernel, by decide +kernel⟩
abbrev s_order_of : Stmt := topS 23
theorem sc_order_of : FnScope ["one", "other", "word", "own", "which", "side"] ["one", "other"] (defScope s_order_of) := ⟨rfl, rfl, rfl, by decide +kernel, rfl, by decide +kernel, by decide +kernel⟩
abbrev s_is_place : Stmt := topS 22
theorem sc_is_place : FnScope ["thing", "own", "one"] ["thing"] (defScope s_is_place) := ⟨rfl, rfl, rfl, by decide +kernel, rfl, by decide +kernel, by decide +kernel⟩
abbrev s_between : Stmt := topS 24
theorem sc_between : FnScope ["one", "other", "low", "high", "found"] ["one", "other"] (defScope s_between) := ⟨rfl, rfl, rfl, by decide +kernel, rfl, by decide +kernel, by decide +kernel⟩
abbrev s_put_in : Stmt := topS 25
theorem sc_put_in : FnScope ["places", "place", "found", "at"] ["places", "place"] (defScope s_put_in) := ⟨rfl, rfl, rfl, by decide +kernel, rfl, by decide +kernel, by decide +kernel⟩
abbrev s_places_of : Stmt := topS 26
theorem sc_places_of : FnScope ["polys", "found", "poly", "root"] ["polys"] (defScope s_places_of) := ⟨rfl, rfl, rfl, by decide +kernel, rfl, by decide +kernel, by decide +kernel⟩
abbrev s_cells_of : Stmt := topS 27
theorem sc_cells_of : FnScope ["polys", "found", "here", "place"] ["polys"] (defScope s_cells_of) := ⟨rfl, rfl, rfl, by decide +kernel, rfl, by decide +kernel, by decide +kernel⟩
abbrev s_sample : Stmt := topS 28
theorem sc_sample : FnScope ["cell"] ["cell"] (defScope s_sample) := ⟨rfl, rfl, rfl, by decide +kernel, rfl, by decide +kernel, by decide +kernel⟩
abbrev s_is_still : Stmt := topS 29
theorem sc_is_still : FnScope ["poly", "cell", "root"] ["poly", "cell"] (defScope s_is_still) := ⟨rfl, rfl, rfl, by decide +kernel, rfl, by decide +kernel, by decide +kernel⟩
abbrev s__law_cell_at : Stmt := topS 31
theorem sc__law_cell_at : FnScope ["_law_script", "_law_k"] ["_law_script", "_law_k"] (defScope s__law_cell_at) := ⟨rfl, rfl, rfl, by decide +kernel, rfl, by decide +kernel, by decide +kernel⟩
abbrev s__law_draw : Stmt := topS 32
theorem sc__law_draw : FnScope ["_law_cell", "_law_k", "_law_bound", "_law_primes"] ["_law_cell", "_law_k", "_law_bound"] (defScope s__law_draw) := ⟨rfl, rfl, rfl, by decide +kernel, rfl, by decide +kernel, by decide +kernel⟩
abbrev s__law_number : Stmt := topS 33
theorem sc__law_number : FnScope ["_law_cell", "_law_k", "_law_bound", "_law_power", "_law_lap", "_law_remains", "_law_small"] ["_law_cell", "_law_k", "_law_bound"] (defScope s__law_number) := ⟨rfl, rfl, rfl, by decide +kernel, rfl, by decide +kernel, by decide +kernel⟩
abbrev s__law_next : Stmt := topS 34
theorem sc__law_next : FnScope ["_law_draw_here", "_law_bound", "_law_at_here", "_law_cell"] ["_law_draw_here", "_law_bound"] (defScope s__law_next) := ⟨rfl, rfl, rfl, by decide +kernel, rfl, by decide +kernel, by decide +kernel⟩
abbrev s__law_common : Stmt := topS 35
theorem sc__law_common : FnScope ["_law_a", "_law_b", "_law_lap"] ["_law_a", "_law_b"] (defScope s__law_common) := ⟨rfl, rfl, rfl, by decide +kernel, rfl, by decide +kernel, by decide +kernel⟩
abbrev s__law_frac : Stmt := topS 36
theorem sc__law_frac : FnScope ["_law_n", "_law_d", "_law_by"] ["_law_n", "_law_d"] (defScope s__law_frac) := ⟨rfl, rfl, rfl, by decide +kernel, rfl, by decide +kernel, by decide +kernel⟩
abbrev s__law_sign : Stmt := topS 37
theorem sc__law_sign : FnScope ["_law_number_here"] ["_law_number_here"] (defScope s__law_sign) := ⟨rfl, rfl, rfl, by decide +kernel, rfl, by decide +kernel, by decide +kernel⟩
abbrev s__law_at : Stmt := topS 38
theorem sc__law_at : FnScope ["_law_poly_here", "_law_n", "_law_d"] ["_law_poly_here", "_law_n", "_law_d"] (defScope s__law_at) := ⟨rfl, rfl, rfl, by decide +kernel, rfl, by decide +kernel, by decide +kernel⟩
abbrev s__law_root_of : Stmt := topS 39
theorem sc__law_root_of : FnScope ["_law_number_here", "_law_low", "_law_high", "_law_lap", "_law_mid"] ["_law_number_here"] (defScope s__law_root_of) := ⟨rfl, rfl, rfl, by decide +kernel, rfl, by decide +kernel, by decide +kernel⟩
abbrev s__law_poly : Stmt := topS 40
theorem sc__law_poly : FnScope ["_law_draw_here", "_law_big", "_law_kind", "_law_some", "_law_by", "_law_a", "_law_b", "_law_c", "_law_d", "_law_m", "_law_turn", "_law_number_here"] ["_law_draw_here", "_law_big"] (defScope s__law_poly) := ⟨rfl, rfl, rfl, by decide +kernel, rfl, by decide +kernel, by decide +kernel⟩
abbrev s__law_roots : Stmt := topS 41
theorem sc__law_roots : FnScope ["_law_poly_here", "_law_c0", "_law_c1", "_law_c2", "_law_inner", "_law_side", "_law_own", "_law_low", "_law_high", "_law_both"] ["_law_poly_here"] (defScope s__law_roots) := ⟨rfl, rfl, rfl, by decide +kernel, rfl, by decide +kernel, by decide +kernel⟩
abbrev s__law_span : Stmt := topS 42
theorem sc__law_span : FnScope ["_law_place", "_law_word", "_law_own", "_law_which", "_law_far", "_law_low", "_law_high", "_law_lap", "_law_mid", "_law_is_right", "_law_inside"] ["_law_place"] (defScope s__law_span) := ⟨rfl, rfl, rfl, by decide +kernel, rfl, by decide +kernel, by decide +kernel⟩
abbrev s__law_order : Stmt := topS 43
theorem sc__law_order : FnScope ["_law_one", "_law_other", "_law_first", "_law_second"] ["_law_one", "_law_other"] (defScope s__law_order) := ⟨rfl, rfl, rfl, by decide +kernel, rfl, by decide +kernel, by decide +kernel⟩
abbrev s__law_in : Stmt := topS 44
theorem sc__law_in : FnScope ["_law_place"] ["_law_place"] (defScope s__law_in) := ⟨rfl, rfl, rfl, by decide +kernel, rfl, by decide +kernel, by decide +kernel⟩
abbrev s__law_places : Stmt := topS 45
theorem sc__law_places : FnScope ["_law_polys", "_law_found", "_law_poly_here", "_law_place", "_law_at_here", "_law_one"] ["_law_polys"] (defScope s__law_places) := ⟨rfl, rfl, rfl, by decide +kernel, rfl, by decide +kernel, by decide +kernel⟩
abbrev s_law : Stmt := topS 46
theorem sc_law : FnScope ["_law_script", "_law_draw_here", "_law_polys", "_law_others", "_law_due", "_law_here", "_law_place", "_law_cell", "_law_poly_here", "_law_turn", "_law_inside", "_law_one"] ["_law_script"] (defScope s_law) := ⟨rfl, rfl, rfl, by decide +kernel, rfl, by decide +kernel, by decide +kernel⟩
section
variable {P : Program} {w : World} {K : PySem.W.Frag} {mg : Str → Option Value} {base : Heap}
theorem ok_common {f : Addr} {fd : FuncData} (D : Fun K "common" "common" s_common f fd) (mm_abs : mg "abs" = none) : FnOk P w K mg base CX0 1 f fd ["a", "b"] (spF K g_common) :=
  def_ok D sc_common (by decide) fun cdv A outer s H E H0 as0 O0 hr => by
    have nd := sc_common.nd
    exact (ds_cons (ds_par 0 1 rfl nd (da_cons (de_abs mm_abs (da_cons (de_var 0) da_nil)) (da_cons (de_abs mm_abs (da_cons (de_var 1) da_nil)) da_nil)))
    (ds_cons (ds_while PassesOwn.never (dt_gt (de_var 1) de_int) (ds_one (ds_par 0 1 rfl nd (da_cons (de_var 1) (da_cons (de_mod (de_var 0) (de_var 1)) da_nil)))))
    (ds_one (ds_ret (de_var 0)))))
theorem ok_frac {f : Addr} {fd : FuncData} (D : Fun K "frac" "frac" s_frac f fd) {f_common : Addr} {fd_common : FuncData} (G_common : FnOk P w K mg base CX0 1 f_common fd_common ["a", "b"] (spF K g_common)) (m_common : mg "common" = some (.ref f_common)) (k_common : PySem.W.keepIn K (.ref f_common) = true) (b_common : Binds K fd_common ["a", "b"] []) : FnOk P w K mg base CX0 2 f fd ["n", "d"] (spF K g_frac) :=
  def_ok D sc_frac (by decide) fun cdv A outer s H E H0 as0 O0 hr => by
    have nd := sc_frac.nd
    exact (ds_cons (ds_if (dt_lt (de_var 1) de_int) (ds_one (ds_par 0 1 rfl nd (da_cons (de_neg (de_var 0)) (da_cons (de_neg (de_var 1)) da_nil)))) ds_nil)
    (ds_cons (ds_set 2 nd (de_call G_common (hr.mono (by decide)) m_common k_common b_common pass0 (da_cons (de_var 0) (da_cons (de_var 1) da_nil))))
    (ds_one (ds_ret (de_tup (da_cons (de_fdiv (de_var 0) (de_var 2)) (da_cons (de_fdiv (de_var 1) (de_var 2)) da_nil)))))))
theorem ok_is_frac {f : Addr} {fd : FuncData} (D : Fun K "is_frac" "is_frac" s_is_frac f fd) {f_common : Addr} {fd_common : FuncData} (G_common : FnOk P w K mg base CX0 1 f_common fd_common ["a", "b"] (spF K g_common)) (m_common : mg "common" = some (.ref f_common)) (k_common : PySem.W.keepIn K (.ref f_common) = true) (b_common : Binds K fd_common ["a", "b"] []) (mm_all : mg "all" = none) (mm_bool : mg "bool" = none) (mm_int : mg "int" = none) (mm_isinstance : mg "isinstance" = none) (mm_len : mg "len" = none) (mm_tuple : mg "tuple" = none) : FnOk P w K mg base CX0 2 f fd ["thing"] (spF K g_is_frac) :=
  def_ok D sc_is_frac (by decide) fun cdv A outer s H E H0 as0 O0 hr => by
    have nd := sc_is_frac.nd
    exact (ds_cons (ds_if (dt_bool (dw_or (dt_not (dt_val (de_isi "tuple" rfl mm_isinstance mm_tuple (by decide +kernel) (de_var 0)))) (dw_or1 (dt_ne hr.units rfl (de_len rfl mm_len (da_cons (de_var 0) da_nil)) de_int)))) (ds_one (ds_ret de_bl)) ds_nil)
    (ds_cons (ds_if (dt_not (dt_val (de_all rfl rfl mm_all (da_cons (de_lc (own := [("one", 1)]) rfl nd (blkOk_by (N := ["thing", "one"]) (sc := defScope s_is_frac) (by decide +kernel)) (di_seq rfl (de_var 0)) (fun _ _ _ _ _ => (dg_name 1 nd)) (fun _ _ _ _ _ => dts_nil) (fun _ _ _ _ _ => (de_and (de_isi "int" rfl mm_isinstance mm_int (by decide +kernel) (de_var 1)) (de_one (de_not (de_isi "bool" rfl mm_isinstance mm_bool (by decide +kernel) (de_var 1))))))) da_nil)))) (ds_one (ds_ret de_bl)) ds_nil)
    (ds_one (ds_ret (de_and (de_gt (de_ix rfl (de_var 0) de_int) de_int) (de_one (de_eq hr.units rfl (de_call G_common (hr.mono (by decide)) m_common k_common b_common pass0 (da_cons (de_ix rfl (de_var 0) de_int) (da_cons (de_ix rfl (de_var 0) de_int) da_nil))) de_int)))))))
theorem ok_sub {f : Addr} {fd : FuncData} (D : Fun K "sub" "sub" s_sub f fd) {f_frac : Addr} {fd_frac : FuncData} (G_frac : FnOk P w K mg base CX0 2 f_frac fd_frac ["n", "d"] (spF K g_frac)) (m_frac : mg "frac" = some (.ref f_frac)) (k_frac : PySem.W.keepIn K (.ref f_frac) = true) (b_frac : Binds K fd_frac ["n", "d"] []) : FnOk P w K mg base CX0 3 f fd ["a", "b"] (spF K g_sub) :=
  def_ok D sc_sub (by decide) fun cdv A outer s H E H0 as0 O0 hr => by
    have nd := sc_sub.nd
    exact (ds_one (ds_ret (de_call G_frac (hr.mono (by decide)) m_frac k_frac b_frac pass0 (da_cons (de_sub (de_mul (de_ix rfl (de_var 0) de_int) (de_ix rfl (de_var 1) de_int)) (de_mul (de_ix rfl (de_var 1) de_int) (de_ix rfl (de_var 0) de_int))) (da_cons (de_mul (de_ix rfl (de_var 0) de_int) (de_ix rfl (de_var 1) de_int)) da_nil)))))
theorem ok_mul {f : Addr} {fd : FuncData} (D : Fun K "mul" "mul" s_mul f fd) {f_frac : Addr} {fd_frac : FuncData} (G_frac : FnOk P w K mg base CX0 2 f_frac fd_frac ["n", "d"] (spF K g_frac)) (m_frac : mg "frac" = some (.ref f_frac)) (k_frac : PySem.W.keepIn K (.ref f_frac) = true) (b_frac : Binds K fd_frac ["n", "d"] []) : FnOk P w K mg base CX0 3 f fd ["a", "b"] (spF K g_mul) :=
  def_ok D sc_mul (by decide) fun cdv A outer s H E H0 as0 O0 hr => by
    have nd := sc_mul.nd
    exact (ds_one (ds_ret (de_call G_frac (hr.mono (by decide)) m_frac k_frac b_frac pass0 (da_cons (de_mul (de_ix rfl (de_var 0) de_int) (de_ix rfl (de_var 1) de_int)) (da_cons (de_mul (de_ix rfl (de_var 0) de_int) (de_ix rfl (de_var 1) de_int)) da_nil)))))
theorem ok_div {f : Addr} {fd : FuncData} (D : Fun K "div" "div" s_div f fd) {f_frac : Addr} {fd_frac : FuncData} (G_frac : FnOk P w K mg base CX0 2 f_frac fd_frac ["n", "d"] (spF K g_frac)) (m_frac : mg "frac" = some (.ref f_frac)) (k_frac : PySem.W.keepIn K (.ref f_frac) = true) (b_frac : Binds K fd_frac ["n", "d"] []) : FnOk P w K mg base CX0 3 f fd ["a", "b"] (spF K g_div) :=
  def_ok D sc_div (by decide) fun cdv A outer s H E H0 as0 O0 hr => by
    have nd := sc_div.nd
    exact (ds_one (ds_ret (de_call G_frac (hr.mono (by decide)) m_frac k_frac b_frac pass0 (da_cons (de_mul (de_ix rfl (de_var 0) de_int) (de_ix rfl (de_var 1) de_int)) (da_cons (de_mul (de_ix rfl (de_var 0) de_int) (de_ix rfl (de_var 1) de_int)) da_nil)))))
theorem ok_sign_of {f : Addr} {fd : FuncData} (D : Fun K "sign_of" "sign_of" s_sign_of f fd) : FnOk P w K mg base CX0 1 f fd ["number"] (spF K g_sign_of) :=
  def_ok D sc_sign_of (by decide) fun cdv A outer s H E H0 as0 O0 hr => by
    have nd := sc_sign_of.nd
    exact (ds_one (ds_ret (de_if (dt_gt (de_var 0) de_int) de_int (de_if (dt_eq hr.units rfl (de_var 0) de_int) de_int (de_neg de_int)))))
theorem ok_compare {f : Addr} {fd : FuncData} (D : Fun K "compare" "compare" s_compare f fd) {f_sign_of : Addr} {fd_sign_of : FuncData} (G_sign_of : FnOk P w K mg base CX0 1 f_sign_of fd_sign_of ["number"] (spF K g_sign_of)) (m_sign_of : mg "sign_of" = some (.ref f_sign_of)) (k_sign_of : PySem.W.keepIn K (.ref f_sign_of) = true) (b_sign_of : Binds K fd_sign_of ["number"] []) : FnOk P w K mg base CX0 2 f fd ["a", "b"] (spF K g_compare) :=
  def_ok D sc_compare (by decide) fun cdv A outer s H E H0 as0 O0 hr => by
    have nd := sc_compare.nd
    exact (ds_one (ds_ret (de_call G_sign_of (hr.mono (by decide)) m_sign_of k_sign_of b_sign_of pass0 (da_cons (de_sub (de_mul (de_ix rfl (de_var 0) de_int) (de_ix rfl (de_var 1) de_int)) (de_mul (de_ix rfl (de_var 1) de_int) (de_ix rfl (de_var 0) de_int))) da_nil))))
theorem ok_middle {f : Addr} {fd : FuncData} (D : Fun K "middle" "middle" s_middle f fd) {f_frac : Addr} {fd_frac : FuncData} (G_frac : FnOk P w K mg base CX0 2 f_frac fd_frac ["n", "d"] (spF K g_frac)) (m_frac : mg "frac" = some (.ref f_frac)) (k_frac : PySem.W.keepIn K (.ref f_frac) = true) (b_frac : Binds K fd_frac ["n", "d"] []) : FnOk P w K mg base CX0 3 f fd ["a", "b"] (spF K g_middle) :=
  def_ok D sc_middle (by decide) fun cdv A outer s H E H0 as0 O0 hr => by
    have nd := sc_middle.nd
    exact (ds_one (ds_ret (de_call G_frac (hr.mono (by decide)) m_frac k_frac b_frac pass0 (da_cons (de_add rfl (de_mul (de_ix rfl (de_var 0) de_int) (de_ix rfl (de_var 1) de_int)) (de_mul (de_ix rfl (de_var 1) de_int) (de_ix rfl (de_var 0) de_int))) (da_cons (de_mul (de_mul de_int (de_ix rfl (de_var 0) de_int)) (de_ix rfl (de_var 1) de_int)) da_nil)))))
theorem ok_whole {f : Addr} {fd : FuncData} (D : Fun K "whole" "whole" s_whole f fd) {f_common : Addr} {fd_common : FuncData} (G_common : FnOk P w K mg base CX0 1 f_common fd_common ["a", "b"] (spF K g_common)) (m_common : mg "common" = some (.ref f_common)) (k_common : PySem.W.keepIn K (.ref f_common) = true) (b_common : Binds K fd_common ["a", "b"] []) (mm_max : mg "max" = none) (mm_tuple : mg "tuple" = none) : FnOk P w K mg base CX0 2 f fd ["poly"] (spF K g_whole) :=
  def_ok D sc_whole (by decide) fun cdv A outer s H E H0 as0 O0 hr => by
    have nd := sc_whole.nd
    exact (ds_cons (ds_set 1 nd de_int)
    (ds_cons (ds_for PassesOwn.never rfl (di_seq rfl (de_var 0)) (dg_tup rfl rfl (dgs_cons (dg_name 2 nd) (dgs_cons (dg_name 3 nd) dgs_nil))) (ds_one (ds_set 1 nd (de_mul (de_fdiv (de_var 1) (de_call G_common (hr.mono (by decide)) m_common k_common b_common pass0 (da_cons (de_var 1) (da_cons (de_var 3) da_nil)))) (de_var 3)))))
    (ds_cons (ds_setLc 4 (own := [("n", 2), ("d", 3)]) rfl nd (blkOk_by (N := ["poly", "by", "n", "d", "numbers", "least", "number"]) (sc := defScope s_whole) (by decide +kernel)) (sw_true rfl rfl rfl (by decide +kernel)) (di_seq rfl (de_var 0)) (fun _ _ _ _ _ => (dg_tup rfl rfl (dgs_cons (dg_name 2 nd) (dgs_cons (dg_name 3 nd) dgs_nil)))) (fun _ _ _ _ _ => dts_nil) (fun _ _ _ _ _ => (de_mul (de_var 2) (de_fdiv (de_var 1) (de_var 3)))))
    (ds_cons (ds_set 5 nd (de_call G_common (hr.mono (by decide)) m_common k_common b_common pass0 (da_cons (de_call G_common (hr.mono (by decide)) m_common k_common b_common pass0 (da_cons (de_ix rfl (de_var 4) de_int) (da_cons (de_ix rfl (de_var 4) de_int) da_nil))) (da_cons (de_ix rfl (de_var 4) de_int) da_nil))))
    (ds_one (ds_ret (de_tupOf rfl mm_tuple (da_cons (de_lc (own := [("number", 6)]) rfl nd (blkOk_by (N := ["poly", "by", "n", "d", "numbers", "least", "number"]) (sc := defScope s_whole) (by decide +kernel)) (di_seq rfl (de_var 4)) (fun _ _ _ _ _ => (dg_name 6 nd)) (fun _ _ _ _ _ => dts_nil) (fun _ _ _ _ _ => (de_fdiv (de_var 6) (de_max rfl rfl mm_max (da_cons (de_lst (da_cons de_int (da_cons (de_var 5) da_nil))) da_nil))))) da_nil))))))))
theorem ok_sign_at {f : Addr} {fd : FuncData} (D : Fun K "sign_at" "sign_at" s_sign_at f fd) {f_sign_of : Addr} {fd_sign_of : FuncData} (G_sign_of : FnOk P w K mg base CX0 1 f_sign_of fd_sign_of ["number"] (spF K g_sign_of)) (m_sign_of : mg "sign_of" = some (.ref f_sign_of)) (k_sign_of : PySem.W.keepIn K (.ref f_sign_of) = true) (b_sign_of : Binds K fd_sign_of ["number"] []) : FnOk P w K mg base CX0 2 f fd ["poly", "place"] (spF K g_sign_at) :=
  def_ok D sc_sign_at (by decide) fun cdv A outer s H E H0 as0 O0 hr => by
    have nd := sc_sign_at.nd
    exact (ds_cons (ds_asg (de_var 1) (dg_tup rfl rfl (dgs_cons (dg_name 2 nd) (dgs_cons (dg_name 3 nd) dgs_nil))))
    (ds_one (ds_ret (de_call G_sign_of (hr.mono (by decide)) m_sign_of k_sign_of b_sign_of pass0 (da_cons (de_add rfl (de_add rfl (de_mul (de_mul (de_ix rfl (de_var 0) de_int) (de_var 3)) (de_var 3)) (de_mul (de_mul (de_ix rfl (de_var 0) de_int) (de_var 2)) (de_var 3))) (de_mul (de_mul (de_ix rfl (de_var 0) de_int) (de_var 2)) (de_var 2))) da_nil)))))
theorem ok_root_of {f : Addr} {fd : FuncData} (D : Fun K "root_of" "root_of" s_root_of f fd) : FnOk P w K mg base CX0 1 f fd ["number"] (spF K g_root_of) :=
  def_ok D sc_root_of (by decide) fun cdv A outer s H E H0 as0 O0 hr => by
    have nd := sc_root_of.nd
    exact (ds_cons (ds_par 1 2 rfl nd (da_cons de_int (da_cons (de_add rfl (de_var 0) de_int) da_nil)))
    (ds_cons (ds_while PassesOwn.never (dt_gt (de_sub (de_var 2) (de_var 1)) de_int) (ds_cons (ds_set 3 nd (de_fdiv (de_add rfl (de_var 1) (de_var 2)) de_int))
    (ds_one (ds_if (dt_le (de_mul (de_var 3) (de_var 3)) (de_var 0)) (ds_one (ds_set 1 nd (de_var 3))) (ds_one (ds_set 2 nd (de_var 3)))))))
    (ds_one (ds_ret (de_var 1)))))
theorem ok_ordered {f : Addr} {fd : FuncData} (D : Fun K "ordered" "ordered" s_ordered f fd) (mm_len : mg "len" = none) : FnOk P w K mg base CX0 1 f fd ["found"] (spF K g_ordered) :=
  def_ok D sc_ordered (by decide) fun cdv A outer s H E H0 as0 O0 hr => by
    have nd := sc_ordered.nd
    exact (ds_cons (ds_if (dt_bool (dw_and (dt_eq hr.units rfl (de_len rfl mm_len (da_cons (de_var 0) da_nil)) de_int) (dw_and1 (dt_gt (de_mul (de_ix rfl (de_ix rfl (de_var 0) de_int) de_int) (de_ix rfl (de_ix rfl (de_var 0) de_int) de_int)) (de_mul (de_ix rfl (de_ix rfl (de_var 0) de_int) de_int) (de_ix rfl (de_ix rfl (de_var 0) de_int) de_int)))))) (ds_one (ds_ret (de_lst (da_cons (de_ix rfl (de_var 0) de_int) (da_cons (de_ix rfl (de_var 0) de_int) da_nil))))) ds_nil)
    (ds_one (ds_ret (de_var 0))))
theorem ok_roots {f : Addr} {fd : FuncData} (D : Fun K "roots" "roots" s_roots f fd) {f_frac : Addr} {fd_frac : FuncData} (G_frac : FnOk P w K mg base CX0 2 f_frac fd_frac ["n", "d"] (spF K g_frac)) (m_frac : mg "frac" = some (.ref f_frac)) (k_frac : PySem.W.keepIn K (.ref f_frac) = true) (b_frac : Binds K fd_frac ["n", "d"] []) {f_root_of : Addr} {fd_root_of : FuncData} (G_root_of : FnOk P w K mg base CX0 1 f_root_of fd_root_of ["number"] (spF K g_root_of)) (m_root_of : mg "root_of" = some (.ref f_root_of)) (k_root_of : PySem.W.keepIn K (.ref f_root_of) = true) (b_root_of : Binds K fd_root_of ["number"] []) {f_ordered : Addr} {fd_ordered : FuncData} (G_ordered : FnOk P w K mg base CX0 1 f_ordered fd_ordered ["found"] (spF K g_ordered)) (m_ordered : mg "ordered" = some (.ref f_ordered)) (k_ordered : PySem.W.keepIn K (.ref f_ordered) = true) (b_ordered : Binds K fd_ordered ["found"] []) : FnOk P w K mg base CX0 3 f fd ["poly"] (spF K g_roots) :=
  def_ok D sc_roots (by decide) fun cdv A outer s H E H0 as0 O0 hr => by
    have nd := sc_roots.nd
    exact (ds_cons (ds_asg (de_var 0) (dg_tup rfl rfl (dgs_cons (dg_name 1 nd) (dgs_cons (dg_name 2 nd) (dgs_cons (dg_name 3 nd) dgs_nil)))))
    (ds_cons (ds_if (dt_eq hr.units rfl (de_var 3) de_int) (ds_one (ds_ret (de_if (dt_eq hr.units rfl (de_var 2) de_int) (de_lst da_nil) (de_lst (da_cons (de_call G_frac (hr.mono (by decide)) m_frac k_frac b_frac pass0 (da_cons (de_neg (de_var 1)) (da_cons (de_var 2) da_nil))) da_nil))))) ds_nil)
    (ds_cons (ds_set 4 nd (de_sub (de_mul (de_var 2) (de_var 2)) (de_mul (de_mul de_int (de_var 1)) (de_var 3))))
    (ds_cons (ds_if (dt_lt (de_var 4) de_int) (ds_one (ds_ret (de_lst da_nil))) ds_nil)
    (ds_cons (ds_set 5 nd (de_call G_root_of (hr.mono (by decide)) m_root_of k_root_of b_root_of pass0 (da_cons (de_var 4) da_nil)))
    (ds_cons (ds_if (dt_eq hr.units rfl (de_mul (de_var 5) (de_var 5)) (de_var 4)) (ds_cons (ds_par 7 8 rfl nd (da_cons (de_call G_frac (hr.mono (by decide)) m_frac k_frac b_frac pass0 (da_cons (de_sub (de_neg (de_var 2)) (de_var 5)) (da_cons (de_mul de_int (de_var 3)) da_nil))) (da_cons (de_call G_frac (hr.mono (by decide)) m_frac k_frac b_frac pass0 (da_cons (de_add rfl (de_neg (de_var 2)) (de_var 5)) (da_cons (de_mul de_int (de_var 3)) da_nil))) da_nil)))
    (ds_one (ds_ret (de_if (dt_eq hr.units rfl (de_var 7) (de_var 8)) (de_lst (da_cons (de_var 7) da_nil)) (de_call G_ordered (hr.mono (by decide)) m_ordered k_ordered b_ordered pass0 (da_cons (de_lst (da_cons (de_var 7) (da_cons (de_var 8) da_nil))) da_nil)))))) ds_nil)
    (ds_cons (ds_set 6 nd (de_if (dt_gt (de_var 3) de_int) (de_var 0) (de_tup (da_cons (de_neg (de_var 1)) (da_cons (de_neg (de_var 2)) (da_cons (de_neg (de_var 3)) da_nil))))))
    (ds_one (ds_ret (de_lst (da_cons (de_tup (da_cons de_str (da_cons (de_var 6) (da_cons de_int da_nil)))) (da_cons (de_tup (da_cons de_str (da_cons (de_var 6) (da_cons de_int da_nil)))) da_nil))))))))))))
theorem ok_rest {f : Addr} {fd : FuncData} (D : Fun K "rest" "rest" s_rest f fd) {f_frac : Addr} {fd_frac : FuncData} (G_frac : FnOk P w K mg base CX0 2 f_frac fd_frac ["n", "d"] (spF K g_frac)) (m_frac : mg "frac" = some (.ref f_frac)) (k_frac : PySem.W.keepIn K (.ref f_frac) = true) (b_frac : Binds K fd_frac ["n", "d"] []) {f_mul : Addr} {fd_mul : FuncData} (G_mul : FnOk P w K mg base CX0 3 f_mul fd_mul ["a", "b"] (spF K g_mul)) (m_mul : mg "mul" = some (.ref f_mul)) (k_mul : PySem.W.keepIn K (.ref f_mul) = true) (b_mul : Binds K fd_mul ["a", "b"] []) {f_sub : Addr} {fd_sub : FuncData} (G_sub : FnOk P w K mg base CX0 3 f_sub fd_sub ["a", "b"] (spF K g_sub)) (m_sub : mg "sub" = some (.ref f_sub)) (k_sub : PySem.W.keepIn K (.ref f_sub) = true) (b_sub : Binds K fd_sub ["a", "b"] []) : FnOk P w K mg base CX0 4 f fd ["poly", "own"] (spF K g_rest) :=
  def_ok D sc_rest (by decide) fun cdv A outer s H E H0 as0 O0 hr => by
    have nd := sc_rest.nd
    exact (ds_cons (ds_asg (de_var 1) (dg_tup rfl rfl (dgs_cons (dg_name 2 nd) (dgs_cons (dg_name 3 nd) (dgs_cons (dg_name 4 nd) dgs_nil)))))
    (ds_cons (ds_set 5 nd (de_call G_frac (hr.mono (by decide)) m_frac k_frac b_frac pass0 (da_cons (de_ix rfl (de_var 0) de_int) (da_cons (de_var 4) da_nil))))
    (ds_one (ds_ret (de_tup (da_cons (de_call G_sub (hr.mono (by decide)) m_sub k_sub b_sub pass0 (da_cons (de_call G_frac (hr.mono (by decide)) m_frac k_frac b_frac pass0 (da_cons (de_ix rfl (de_var 0) de_int) (da_cons de_int da_nil))) (da_cons (de_call G_mul (hr.mono (by decide)) m_mul k_mul b_mul pass0 (da_cons (de_var 5) (da_cons (de_call G_frac (hr.mono (by decide)) m_frac k_frac b_frac pass0 (da_cons (de_var 2) (da_cons de_int da_nil))) da_nil))) da_nil))) (da_cons (de_call G_sub (hr.mono (by decide)) m_sub k_sub b_sub pass0 (da_cons (de_call G_frac (hr.mono (by decide)) m_frac k_frac b_frac pass0 (da_cons (de_ix rfl (de_var 0) de_int) (da_cons de_int da_nil))) (da_cons (de_call G_mul (hr.mono (by decide)) m_mul k_mul b_mul pass0 (da_cons (de_var 5) (da_cons (de_call G_frac (hr.mono (by decide)) m_frac k_frac b_frac pass0 (da_cons (de_var 3) (da_cons de_int da_nil))) da_nil))) da_nil))) da_nil)))))))
theorem ok_root_side {f : Addr} {fd : FuncData} (D : Fun K "root_side" "root_side" s_root_side f fd) {f_sign_at : Addr} {fd_sign_at : FuncData} (G_sign_at : FnOk P w K mg base CX0 2 f_sign_at fd_sign_at ["poly", "place"] (spF K g_sign_at)) (m_sign_at : mg "sign_at" = some (.ref f_sign_at)) (k_sign_at : PySem.W.keepIn K (.ref f_sign_at) = true) (b_sign_at : Binds K fd_sign_at ["poly", "place"] []) {f_sign_of : Addr} {fd_sign_of : FuncData} (G_sign_of : FnOk P w K mg base CX0 1 f_sign_of fd_sign_of ["number"] (spF K g_sign_of)) (m_sign_of : mg "sign_of" = some (.ref f_sign_of)) (k_sign_of : PySem.W.keepIn K (.ref f_sign_of) = true) (b_sign_of : Binds K fd_sign_of ["number"] []) : FnOk P w K mg base CX0 3 f fd ["root", "place"] (spF K g_root_side) :=
  def_ok D sc_root_side (by decide) fun cdv A outer s H E H0 as0 O0 hr => by
    have nd := sc_root_side.nd
    exact (ds_cons (ds_asg (de_var 0) (dg_tup rfl rfl (dgs_cons (dg_name 2 nd) (dgs_cons (dg_name 3 nd) (dgs_cons (dg_name 4 nd) dgs_nil)))))
    (ds_cons (ds_if (dt_lt (de_call G_sign_at (hr.mono (by decide)) m_sign_at k_sign_at b_sign_at pass0 (da_cons (de_var 3) (da_cons (de_var 1) da_nil))) de_int) (ds_one (ds_ret (de_if (dt_eq hr.units rfl (de_var 4) de_int) de_int (de_neg de_int)))) ds_nil)
    (ds_one (ds_ret (de_call G_sign_of (hr.mono (by decide)) m_sign_of k_sign_of b_sign_of pass0 (da_cons (de_sub (de_mul (de_neg (de_ix rfl (de_var 3) de_int)) (de_ix rfl (de_var 1) de_int)) (de_mul (de_mul de_int (de_ix rfl (de_var 3) de_int)) (de_ix rfl (de_var 1) de_int))) da_nil))))))
theorem ok_sign_on {f : Addr} {fd : FuncData} (D : Fun K "sign_on" "sign_on" s_sign_on f fd) {f_sign_at : Addr} {fd_sign_at : FuncData} (G_sign_at : FnOk P w K mg base CX0 2 f_sign_at fd_sign_at ["poly", "place"] (spF K g_sign_at)) (m_sign_at : mg "sign_at" = some (.ref f_sign_at)) (k_sign_at : PySem.W.keepIn K (.ref f_sign_at) = true) (b_sign_at : Binds K fd_sign_at ["poly", "place"] []) {f_rest : Addr} {fd_rest : FuncData} (G_rest : FnOk P w K mg base CX0 4 f_rest fd_rest ["poly", "own"] (spF K g_rest)) (m_rest : mg "rest" = some (.ref f_rest)) (k_rest : PySem.W.keepIn K (.ref f_rest) = true) (b_rest : Binds K fd_rest ["poly", "own"] []) {f_sign_of : Addr} {fd_sign_of : FuncData} (G_sign_of : FnOk P w K mg base CX0 1 f_sign_of fd_sign_of ["number"] (spF K g_sign_of)) (m_sign_of : mg "sign_of" = some (.ref f_sign_of)) (k_sign_of : PySem.W.keepIn K (.ref f_sign_of) = true) (b_sign_of : Binds K fd_sign_of ["number"] []) {f_frac : Addr} {fd_frac : FuncData} (G_frac : FnOk P w K mg base CX0 2 f_frac fd_frac ["n", "d"] (spF K g_frac)) (m_frac : mg "frac" = some (.ref f_frac)) (k_frac : PySem.W.keepIn K (.ref f_frac) = true) (b_frac : Binds K fd_frac ["n", "d"] []) {f_div : Addr} {fd_div : FuncData} (G_div : FnOk P w K mg base CX0 3 f_div fd_div ["a", "b"] (spF K g_div)) (m_div : mg "div" = some (.ref f_div)) (k_div : PySem.W.keepIn K (.ref f_div) = true) (b_div : Binds K fd_div ["a", "b"] []) {f_root_side : Addr} {fd_root_side : FuncData} (G_root_side : FnOk P w K mg base CX0 3 f_root_side fd_root_side ["root", "place"] (spF K g_root_side)) (m_root_side : mg "root_side" = some (.ref f_root_side)) (k_root_side : PySem.W.keepIn K (.ref f_root_side) = true) (b_root_side : Binds K fd_root_side ["root", "place"] []) : FnOk P w K mg base CX0 5 f fd ["poly", "place"] (spF K g_sign_on) :=
  def_ok D sc_sign_on (by decide) fun cdv A outer s H E H0 as0 O0 hr => by
    have nd := sc_sign_on.nd
    exact (ds_cons (ds_if (dt_ne hr.units rfl (de_ix rfl (de_var 1) de_int) de_str) (ds_one (ds_ret (de_call G_sign_at (hr.mono (by decide)) m_sign_at k_sign_at b_sign_at pass0 (da_cons (de_var 0) (da_cons (de_var 1) da_nil))))) ds_nil)
    (ds_cons (ds_asg (de_call G_rest (hr.mono (by decide)) m_rest k_rest b_rest pass0 (da_cons (de_var 0) (da_cons (de_ix rfl (de_var 1) de_int) da_nil))) (dg_tup rfl rfl (dgs_cons (dg_name 2 nd) (dgs_cons (dg_name 3 nd) dgs_nil))))
    (ds_cons (ds_if (dt_eq hr.units rfl (de_ix rfl (de_var 3) de_int) de_int) (ds_one (ds_ret (de_call G_sign_of (hr.mono (by decide)) m_sign_of k_sign_of b_sign_of pass0 (da_cons (de_ix rfl (de_var 2) de_int) da_nil)))) ds_nil)
    (ds_one (ds_ret (de_mul (de_call G_sign_of (hr.mono (by decide)) m_sign_of k_sign_of b_sign_of pass0 (da_cons (de_ix rfl (de_var 3) de_int) da_nil)) (de_call G_root_side (hr.mono (by decide)) m_root_side k_root_side b_root_side pass0 (da_cons (de_var 1) (da_cons (de_call G_div (hr.mono (by decide)) m_div k_div b_div pass0 (da_cons (de_call G_frac (hr.mono (by decide)) m_frac k_frac b_frac pass0 (da_cons (de_neg (de_ix rfl (de_var 2) de_int)) (da_cons (de_ix rfl (de_var 2) de_int) da_nil))) (da_cons (de_var 3) da_nil))) da_nil)))))))))
theorem ok_order_of {f : Addr} {fd : FuncData} (D : Fun K "order_of" "order_of" s_order_of f fd) {f_compare : Addr} {fd_compare : FuncData} (G_compare : FnOk P w K mg base CX0 2 f_compare fd_compare ["a", "b"] (spF K g_compare)) (m_compare : mg "compare" = some (.ref f_compare)) (k_compare : PySem.W.keepIn K (.ref f_compare) = true) (b_compare : Binds K fd_compare ["a", "b"] []) {f_root_side : Addr} {fd_root_side : FuncData} (G_root_side : FnOk P w K mg base CX0 3 f_root_side fd_root_side ["root", "place"] (spF K g_root_side)) (m_root_side : mg "root_side" = some (.ref f_root_side)) (k_root_side : PySem.W.keepIn K (.ref f_root_side) = true) (b_root_side : Binds K fd_root_side ["root", "place"] []) {f_sign_of : Addr} {fd_sign_of : FuncData} (G_sign_of : FnOk P w K mg base CX0 1 f_sign_of fd_sign_of ["number"] (spF K g_sign_of)) (m_sign_of : mg "sign_of" = some (.ref f_sign_of)) (k_sign_of : PySem.W.keepIn K (.ref f_sign_of) = true) (b_sign_of : Binds K fd_sign_of ["number"] []) {f_sign_on : Addr} {fd_sign_on : FuncData} (G_sign_on : FnOk P w K mg base CX0 5 f_sign_on fd_sign_on ["poly", "place"] (spF K g_sign_on)) (m_sign_on : mg "sign_on" = some (.ref f_sign_on)) (k_sign_on : PySem.W.keepIn K (.ref f_sign_on) = true) (b_sign_on : Binds K fd_sign_on ["poly", "place"] []) : FnOk P w K mg base CX0 6 f fd ["one", "other"] (spF K g_order_of) :=
  def_ok D sc_order_of (by decide) fun cdv A outer s H E H0 as0 O0 hr => by
    have nd := sc_order_of.nd
    exact (ds_cons (ds_if (dt_bool (dw_and (dt_ne hr.units rfl (de_ix rfl (de_var 0) de_int) de_str) (dw_and1 (dt_ne hr.units rfl (de_ix rfl (de_var 1) de_int) de_str)))) (ds_one (ds_ret (de_call G_compare (hr.mono (by decide)) m_compare k_compare b_compare pass0 (da_cons (de_var 0) (da_cons (de_var 1) da_nil))))) ds_nil)
    (ds_cons (ds_if (dt_eq hr.units rfl (de_var 0) (de_var 1)) (ds_one (ds_ret de_int)) ds_nil)
    (ds_cons (ds_if (dt_ne hr.units rfl (de_ix rfl (de_var 1) de_int) de_str) (ds_one (ds_ret (de_call G_root_side (hr.mono (by decide)) m_root_side k_root_side b_root_side pass0 (da_cons (de_var 0) (da_cons (de_var 1) da_nil))))) ds_nil)
    (ds_cons (ds_if (dt_ne hr.units rfl (de_ix rfl (de_var 0) de_int) de_str) (ds_one (ds_ret (de_neg (de_call G_root_side (hr.mono (by decide)) m_root_side k_root_side b_root_side pass0 (da_cons (de_var 1) (da_cons (de_var 0) da_nil)))))) ds_nil)
    (ds_cons (ds_asg (de_var 1) (dg_tup rfl rfl (dgs_cons (dg_name 2 nd) (dgs_cons (dg_name 3 nd) (dgs_cons (dg_name 4 nd) dgs_nil)))))
    (ds_cons (ds_if (dt_eq hr.units rfl (de_ix rfl (de_var 0) de_int) (de_var 3)) (ds_one (ds_ret (de_call G_sign_of (hr.mono (by decide)) m_sign_of k_sign_of b_sign_of pass0 (da_cons (de_sub (de_ix rfl (de_var 0) de_int) (de_var 4)) da_nil)))) ds_nil)
    (ds_cons (ds_set 5 nd (de_call G_sign_on (hr.mono (by decide)) m_sign_on k_sign_on b_sign_on pass0 (da_cons (de_var 3) (da_cons (de_var 0) da_nil))))
    (ds_cons (ds_if (dt_lt (de_var 5) de_int) (ds_one (ds_ret (de_if (dt_eq hr.units rfl (de_var 4) de_int) de_int (de_neg de_int)))) ds_nil)
    (ds_one (ds_ret (de_call G_sign_on (hr.mono (by decide)) m_sign_on k_sign_on b_sign_on pass0 (da_cons (de_tup (da_cons (de_ix rfl (de_var 3) de_int) (da_cons (de_mul de_int (de_ix rfl (de_var 3) de_int)) (da_cons de_int da_nil)))) (da_cons (de_var 0) da_nil)))))))))))))
theorem ok_is_place {f : Addr} {fd : FuncData} (D : Fun K "is_place" "is_place" s_is_place f fd) {f_is_frac : Addr} {fd_is_frac : FuncData} (G_is_frac : FnOk P w K mg base CX0 2 f_is_frac fd_is_frac ["thing"] (spF K g_is_frac)) (m_is_frac : mg "is_frac" = some (.ref f_is_frac)) (k_is_frac : PySem.W.keepIn K (.ref f_is_frac) = true) (b_is_frac : Binds K fd_is_frac ["thing"] []) {f_compare : Addr} {fd_compare : FuncData} (G_compare : FnOk P w K mg base CX0 2 f_compare fd_compare ["a", "b"] (spF K g_compare)) (m_compare : mg "compare" = some (.ref f_compare)) (k_compare : PySem.W.keepIn K (.ref f_compare) = true) (b_compare : Binds K fd_compare ["a", "b"] []) {f_whole : Addr} {fd_whole : FuncData} (G_whole : FnOk P w K mg base CX0 2 f_whole fd_whole ["poly"] (spF K g_whole)) (m_whole : mg "whole" = some (.ref f_whole)) (k_whole : PySem.W.keepIn K (.ref f_whole) = true) (b_whole : Binds K fd_whole ["poly"] []) {f_roots : Addr} {fd_roots : FuncData} (G_roots : FnOk P w K mg base CX0 3 f_roots fd_roots ["poly"] (spF K g_roots)) (m_roots : mg "roots" = some (.ref f_roots)) (k_roots : PySem.W.keepIn K (.ref f_roots) = true) (b_roots : Binds K fd_roots ["poly"] []) {f_order_of : Addr} {fd_order_of : FuncData} (G_order_of : FnOk P w K mg base CX0 6 f_order_of fd_order_of ["one", "other"] (spF K g_order_of)) (m_order_of : mg "order_of" = some (.ref f_order_of)) (k_order_of : PySem.W.keepIn K (.ref f_order_of) = true) (b_order_of : Binds K fd_order_of ["one", "other"] []) (mm_all : mg "all" = none) (mm_bool : mg "bool" = none) (mm_int : mg "int" = none) (mm_isinstance : mg "isinstance" = none) (mm_len : mg "len" = none) (mm_tuple : mg "tuple" = none) (t_END : Top K mg "END" (.tuple [(.int 1), (.int 1)])) (t_START : Top K mg "START" (.tuple [(.int 0), (.int 1)])) : FnOk P w K mg base CX0 7 f fd ["thing"] (spF K g_is_place) :=
  def_ok D sc_is_place (by decide) fun cdv A outer s H E H0 as0 O0 hr => by
    have nd := sc_is_place.nd
    exact (ds_cons (ds_if (dt_val (de_call G_is_frac (hr.mono (by decide)) m_is_frac k_is_frac b_is_frac pass0 (da_cons (de_var 0) da_nil))) (ds_one (ds_ret (de_and (de_lt (de_call G_compare (hr.mono (by decide)) m_compare k_compare b_compare pass0 (da_cons (de_top t_START) (da_cons (de_var 0) da_nil))) de_int) (de_one (de_lt (de_call G_compare (hr.mono (by decide)) m_compare k_compare b_compare pass0 (da_cons (de_var 0) (da_cons (de_top t_END) da_nil))) de_int))))) ds_nil)
    (ds_cons (ds_if (dt_bool (dw_or (dt_not (dt_val (de_isi "tuple" rfl mm_isinstance mm_tuple (by decide +kernel) (de_var 0)))) (dw_or (dt_ne hr.units rfl (de_len rfl mm_len (da_cons (de_var 0) da_nil)) de_int) (dw_or (dt_ne hr.units rfl (de_ix rfl (de_var 0) de_int) de_str) (dw_or1 (dt_notIn hr rfl (de_ix rfl (de_var 0) de_int) (de_tup (da_cons de_int (da_cons de_int da_nil))))))))) (ds_one (ds_ret de_bl)) ds_nil)
    (ds_cons (ds_set 1 nd (de_ix rfl (de_var 0) de_int))
    (ds_cons (ds_if (dt_bool (dw_or (dt_not (dt_val (de_isi "int" rfl mm_isinstance mm_int (by decide +kernel) (de_ix rfl (de_var 0) de_int)))) (dw_or (dt_val (de_isi "bool" rfl mm_isinstance mm_bool (by decide +kernel) (de_ix rfl (de_var 0) de_int))) (dw_or (dt_not (dt_val (de_isi "tuple" rfl mm_isinstance mm_tuple (by decide +kernel) (de_var 1)))) (dw_or1 (dt_ne hr.units rfl (de_len rfl mm_len (da_cons (de_var 1) da_nil)) de_int)))))) (ds_one (ds_ret de_bl)) ds_nil)
    (ds_cons (ds_if (dt_not (dt_val (de_all rfl rfl mm_all (da_cons (de_lc (own := [("one", 2)]) rfl nd (blkOk_by (N := ["thing", "own", "one"]) (sc := defScope s_is_place) (by decide +kernel)) (di_seq rfl (de_var 1)) (fun _ _ _ _ _ => (dg_name 2 nd)) (fun _ _ _ _ _ => dts_nil) (fun _ _ _ _ _ => (de_and (de_isi "int" rfl mm_isinstance mm_int (by decide +kernel) (de_var 2)) (de_one (de_not (de_isi "bool" rfl mm_isinstance mm_bool (by decide +kernel) (de_var 2))))))) da_nil)))) (ds_one (ds_ret de_bl)) ds_nil)
    (ds_cons (ds_if (dt_ne hr.units rfl (de_call G_whole (hr.mono (by decide)) m_whole k_whole b_whole pass0 (da_cons (de_tupOf rfl mm_tuple (da_cons (de_lc (own := [("one", 2)]) rfl nd (blkOk_by (N := ["thing", "own", "one"]) (sc := defScope s_is_place) (by decide +kernel)) (di_seq rfl (de_var 1)) (fun _ _ _ _ _ => (dg_name 2 nd)) (fun _ _ _ _ _ => dts_nil) (fun _ _ _ _ _ => (de_tup (da_cons (de_var 2) (da_cons de_int da_nil))))) da_nil)) da_nil)) (de_var 1)) (ds_one (ds_ret de_bl)) ds_nil)
    (ds_one (ds_ret (de_and (de_in hr rfl (de_var 0) (de_call G_roots (hr.mono (by decide)) m_roots k_roots b_roots pass0 (da_cons (de_var 1) da_nil))) (de_and (de_lt (de_call G_order_of (hr.mono (by decide)) m_order_of k_order_of b_order_of pass0 (da_cons (de_top t_START) (da_cons (de_var 0) da_nil))) de_int) (de_one (de_lt (de_call G_order_of (hr.mono (by decide)) m_order_of k_order_of b_order_of pass0 (da_cons (de_var 0) (da_cons (de_top t_END) da_nil))) de_int))))))))))))
theorem ok_between {f : Addr} {fd : FuncData} (D : Fun K "between" "between" s_between f fd) {f_middle : Addr} {fd_middle : FuncData} (G_middle : FnOk P w K mg base CX0 3 f_middle fd_middle ["a", "b"] (spF K g_middle)) (m_middle : mg "middle" = some (.ref f_middle)) (k_middle : PySem.W.keepIn K (.ref f_middle) = true) (b_middle : Binds K fd_middle ["a", "b"] []) {f_order_of : Addr} {fd_order_of : FuncData} (G_order_of : FnOk P w K mg base CX0 6 f_order_of fd_order_of ["one", "other"] (spF K g_order_of)) (m_order_of : mg "order_of" = some (.ref f_order_of)) (k_order_of : PySem.W.keepIn K (.ref f_order_of) = true) (b_order_of : Binds K fd_order_of ["one", "other"] []) (t_END : Top K mg "END" (.tuple [(.int 1), (.int 1)])) (t_START : Top K mg "START" (.tuple [(.int 0), (.int 1)])) : FnOk P w K mg base CX0 7 f fd ["one", "other"] (spF K g_between) :=
  def_ok D sc_between (by decide) fun cdv A outer s H E H0 as0 O0 hr => by
    have nd := sc_between.nd
    exact (ds_cons (ds_par 2 3 rfl nd (da_cons (de_top t_START) (da_cons (de_top t_END) da_nil)))
    (ds_one (ds_while PassesOwn.never (dt_val de_bl) (ds_cons (ds_set 4 nd (de_call G_middle (hr.mono (by decide)) m_middle k_middle b_middle pass0 (da_cons (de_var 2) (da_cons (de_var 3) da_nil))))
    (ds_one (ds_if (dt_ge (de_call G_order_of (hr.mono (by decide)) m_order_of k_order_of b_order_of pass0 (da_cons (de_var 0) (da_cons (de_var 4) da_nil))) de_int) (ds_one (ds_set 2 nd (de_var 4))) (ds_one (ds_if (dt_ge (de_call G_order_of (hr.mono (by decide)) m_order_of k_order_of b_order_of pass0 (da_cons (de_var 4) (da_cons (de_var 1) da_nil))) de_int) (ds_one (ds_set 3 nd (de_var 4))) (ds_one (ds_ret (de_var 4)))))))))))
theorem ok_put_in {f : Addr} {fd : FuncData} (D : Fun K "put_in" "put_in" s_put_in f fd) {f_order_of : Addr} {fd_order_of : FuncData} (G_order_of : FnOk P w K mg base CX0 6 f_order_of fd_order_of ["one", "other"] (spF K g_order_of)) (m_order_of : mg "order_of" = some (.ref f_order_of)) (k_order_of : PySem.W.keepIn K (.ref f_order_of) = true) (b_order_of : Binds K fd_order_of ["one", "other"] []) (mm_len : mg "len" = none) (mm_list : mg "list" = none) : FnOk P w K mg base CX0 7 f fd ["places", "place"] (spF K g_put_in) :=
  def_ok D sc_put_in (by decide) fun cdv A outer s H E H0 as0 O0 hr => by
    have nd := sc_put_in.nd
    exact (ds_cons (ds_par 2 3 rfl nd (da_cons (de_lstOf rfl mm_list (da_cons (de_var 0) da_nil)) (da_cons de_int da_nil)))
    (ds_cons (ds_while PassesOwn.never (dt_bool (dw_and (dt_lt (de_var 3) (de_len rfl mm_len (da_cons (de_var 2) da_nil))) (dw_and1 (dt_lt (de_call G_order_of (hr.mono (by decide)) m_order_of k_order_of b_order_of pass0 (da_cons (de_ix rfl (de_var 2) (de_var 3)) (da_cons (de_var 1) da_nil))) de_int)))) (ds_one (ds_augAdd 3 nd de_int)))
    (ds_cons (ds_if (dt_bool (dw_and (dt_lt (de_var 3) (de_len rfl mm_len (da_cons (de_var 2) da_nil))) (dw_and1 (dt_eq hr.units rfl (de_ix rfl (de_var 2) (de_var 3)) (de_var 1))))) (ds_one (ds_ret (de_var 2))) ds_nil)
    (ds_one (ds_ret (de_add rfl (de_add rfl (de_slice rfl (de_var 2) do_none (do_some (de_var 3))) (de_lst (da_cons (de_var 1) da_nil))) (de_slice rfl (de_var 2) (do_some (de_var 3)) do_none)))))))
theorem ok_places_of {f : Addr} {fd : FuncData} (D : Fun K "places_of" "places_of" s_places_of f fd) {f_roots : Addr} {fd_roots : FuncData} (G_roots : FnOk P w K mg base CX0 3 f_roots fd_roots ["poly"] (spF K g_roots)) (m_roots : mg "roots" = some (.ref f_roots)) (k_roots : PySem.W.keepIn K (.ref f_roots) = true) (b_roots : Binds K fd_roots ["poly"] []) {f_order_of : Addr} {fd_order_of : FuncData} (G_order_of : FnOk P w K mg base CX0 6 f_order_of fd_order_of ["one", "other"] (spF K g_order_of)) (m_order_of : mg "order_of" = some (.ref f_order_of)) (k_order_of : PySem.W.keepIn K (.ref f_order_of) = true) (b_order_of : Binds K fd_order_of ["one", "other"] []) {f_put_in : Addr} {fd_put_in : FuncData} (G_put_in : FnOk P w K mg base CX0 7 f_put_in fd_put_in ["places", "place"] (spF K g_put_in)) (m_put_in : mg "put_in" = some (.ref f_put_in)) (k_put_in : PySem.W.keepIn K (.ref f_put_in) = true) (b_put_in : Binds K fd_put_in ["places", "place"] []) (t_END : Top K mg "END" (.tuple [(.int 1), (.int 1)])) (t_START : Top K mg "START" (.tuple [(.int 0), (.int 1)])) : FnOk P w K mg base CX0 8 f fd ["polys"] (spF K g_places_of) :=
  def_ok D sc_places_of (by decide) fun cdv A outer s H E H0 as0 O0 hr => by
    have nd := sc_places_of.nd
    exact (ds_cons (ds_set 1 nd (de_lst da_nil))
    (ds_cons (ds_for PassesOwn.never rfl (di_seq rfl (de_var 0)) (dg_name 2 nd) (ds_one (ds_for PassesOwn.never rfl (di_seq rfl (de_call G_roots (hr.mono (by decide)) m_roots k_roots b_roots pass0 (da_cons (de_var 2) da_nil))) (dg_name 3 nd) (ds_one (ds_if (dt_bool (dw_and (dt_lt (de_call G_order_of (hr.mono (by decide)) m_order_of k_order_of b_order_of pass0 (da_cons (de_top t_START) (da_cons (de_var 3) da_nil))) de_int) (dw_and1 (dt_lt (de_call G_order_of (hr.mono (by decide)) m_order_of k_order_of b_order_of pass0 (da_cons (de_var 3) (da_cons (de_top t_END) da_nil))) de_int)))) (ds_one (ds_set 1 nd (de_call G_put_in (hr.mono (by decide)) m_put_in k_put_in b_put_in pass0 (da_cons (de_var 1) (da_cons (de_var 3) da_nil))))) ds_nil)))))
    (ds_one (ds_ret (de_var 1)))))
theorem ok_cells_of {f : Addr} {fd : FuncData} (D : Fun K "cells_of" "cells_of" s_cells_of f fd) {f_places_of : Addr} {fd_places_of : FuncData} (G_places_of : FnOk P w K mg base CX0 8 f_places_of fd_places_of ["polys"] (spF K g_places_of)) (m_places_of : mg "places_of" = some (.ref f_places_of)) (k_places_of : PySem.W.keepIn K (.ref f_places_of) = true) (b_places_of : Binds K fd_places_of ["polys"] []) (t_END : Top K mg "END" (.tuple [(.int 1), (.int 1)])) (t_START : Top K mg "START" (.tuple [(.int 0), (.int 1)])) : FnOk P w K mg base CX0 9 f fd ["polys"] (spF K g_cells_of) :=
  def_ok D sc_cells_of (by decide) fun cdv A outer s H E H0 as0 O0 hr => by
    have nd := sc_cells_of.nd
    exact (ds_cons (ds_parOwn 1 2 rfl nd da_nil (de_top t_START))
    (ds_cons (ds_for PassesOwn.never rfl (di_seq rfl (de_call G_places_of (hr.mono (by decide)) m_places_of k_places_of b_places_of pass0 (da_cons (de_var 0) da_nil))) (dg_name 3 nd) (ds_cons (ds_extend 1 (dn_lst (da_cons (de_tup (da_cons de_str (da_cons (de_var 2) (da_cons (de_var 3) da_nil)))) (da_cons (de_tup (da_cons de_str (da_cons (de_var 3) da_nil))) da_nil))))
    (ds_one (ds_set 2 nd (de_var 3)))))
    (ds_one (ds_freeze 1 (ds_ret (de_add rfl (de_var 1) (de_lst (da_cons (de_tup (da_cons de_str (da_cons (de_var 2) (da_cons (de_top t_END) da_nil)))) da_nil))))))))
theorem ok_sample {f : Addr} {fd : FuncData} (D : Fun K "sample" "sample" s_sample f fd) {f_between : Addr} {fd_between : FuncData} (G_between : FnOk P w K mg base CX0 7 f_between fd_between ["one", "other"] (spF K g_between)) (m_between : mg "between" = some (.ref f_between)) (k_between : PySem.W.keepIn K (.ref f_between) = true) (b_between : Binds K fd_between ["one", "other"] []) : FnOk P w K mg base CX0 8 f fd ["cell"] (spF K g_sample) :=
  def_ok D sc_sample (by decide) fun cdv A outer s H E H0 as0 O0 hr => by
    have nd := sc_sample.nd
    exact (ds_one (ds_ret (de_if (dt_eq hr.units rfl (de_ix rfl (de_var 0) de_int) de_str) (de_ix rfl (de_var 0) de_int) (de_call G_between (hr.mono (by decide)) m_between k_between b_between pass0 (da_cons (de_ix rfl (de_var 0) de_int) (da_cons (de_ix rfl (de_var 0) de_int) da_nil))))))
theorem ok_is_still {f : Addr} {fd : FuncData} (D : Fun K "is_still" "is_still" s_is_still f fd) {f_roots : Addr} {fd_roots : FuncData} (G_roots : FnOk P w K mg base CX0 3 f_roots fd_roots ["poly"] (spF K g_roots)) (m_roots : mg "roots" = some (.ref f_roots)) (k_roots : PySem.W.keepIn K (.ref f_roots) = true) (b_roots : Binds K fd_roots ["poly"] []) {f_order_of : Addr} {fd_order_of : FuncData} (G_order_of : FnOk P w K mg base CX0 6 f_order_of fd_order_of ["one", "other"] (spF K g_order_of)) (m_order_of : mg "order_of" = some (.ref f_order_of)) (k_order_of : PySem.W.keepIn K (.ref f_order_of) = true) (b_order_of : Binds K fd_order_of ["one", "other"] []) : FnOk P w K mg base CX0 7 f fd ["poly", "cell"] (spF K g_is_still) :=
  def_ok D sc_is_still (by decide) fun cdv A outer s H E H0 as0 O0 hr => by
    have nd := sc_is_still.nd
    exact (ds_cons (ds_if (dt_eq hr.units rfl (de_ix rfl (de_var 1) de_int) de_str) (ds_one (ds_ret de_bl)) ds_nil)
    (ds_cons (ds_for PassesOwn.never rfl (di_seq rfl (de_call G_roots (hr.mono (by decide)) m_roots k_roots b_roots pass0 (da_cons (de_var 0) da_nil))) (dg_name 2 nd) (ds_one (ds_if (dt_bool (dw_and (dt_lt (de_call G_order_of (hr.mono (by decide)) m_order_of k_order_of b_order_of pass0 (da_cons (de_ix rfl (de_var 1) de_int) (da_cons (de_var 2) da_nil))) de_int) (dw_and1 (dt_lt (de_call G_order_of (hr.mono (by decide)) m_order_of k_order_of b_order_of pass0 (da_cons (de_var 2) (da_cons (de_ix rfl (de_var 1) de_int) da_nil))) de_int)))) (ds_one (ds_ret de_bl)) ds_nil)))
    (ds_one (ds_ret de_bl))))
theorem ok__law_cell_at {f : Addr} {fd : FuncData} (D : Fun K "_law_cell_at" "_law_cell_at" s__law_cell_at f fd) (mm_len : mg "len" = none) : FnOk P w K mg base CX0 1 f fd ["_law_script", "_law_k"] (spF K g__law_cell_at) :=
  def_ok D sc__law_cell_at (by decide) fun cdv A outer s H E H0 as0 O0 hr => by
    have nd := sc__law_cell_at.nd
    exact (ds_cons (ds_if (dt_lt (de_var 1) (de_len rfl mm_len (da_cons (de_var 0) da_nil))) (ds_one (ds_ret (de_ix rfl (de_var 0) (de_var 1)))) ds_nil)
    (ds_one (ds_ret de_int)))
theorem ok__law_draw {f : Addr} {fd : FuncData} (D : Fun K "_law_draw" "_law_draw" s__law_draw f fd) (mm_int : mg "int" = none) : FnOk P w K mg base CX0 1 f fd ["_law_cell", "_law_k", "_law_bound"] (spF K g__law_draw) :=
  def_ok D sc__law_draw (by decide) fun cdv A outer s H E H0 as0 O0 hr => by
    have nd := sc__law_draw.nd
    exact (ds_cons (ds_set 3 nd (de_tup (da_cons de_int (da_cons de_int (da_cons de_int (da_cons de_int (da_cons de_int (da_cons de_int (da_cons de_int (da_cons de_int (da_cons de_int (da_cons de_int (da_cons de_int (da_cons de_int (da_cons de_int (da_cons de_int (da_cons de_int (da_cons de_int da_nil))))))))))))))))))
    (ds_one (ds_ret (de_mod (de_mod (de_intOf mm_int (da_cons (de_add rfl (de_mul (de_var 0) de_int) (de_mul (de_var 1) de_int)) da_nil)) (de_ix rfl (de_var 3) (de_mod (de_intOf mm_int (da_cons (de_var 1) da_nil)) de_int))) (de_var 2)))))
theorem ok__law_number {f : Addr} {fd : FuncData} (D : Fun K "_law_number" "_law_number" s__law_number f fd) {f__law_draw : Addr} {fd__law_draw : FuncData} (G__law_draw : FnOk P w K mg base CX0 1 f__law_draw fd__law_draw ["_law_cell", "_law_k", "_law_bound"] (spF K g__law_draw)) (m__law_draw : mg "_law_draw" = some (.ref f__law_draw)) (k__law_draw : PySem.W.keepIn K (.ref f__law_draw) = true) (b__law_draw : Binds K fd__law_draw ["_law_cell", "_law_k", "_law_bound"] []) (mm_int : mg "int" = none) (mm_range : mg "range" = none) : FnOk P w K mg base CX0 2 f fd ["_law_cell", "_law_k", "_law_bound"] (spF K g__law_number) :=
  def_ok D sc__law_number (by decide) fun cdv A outer s H E H0 as0 O0 hr => by
    have nd := sc__law_number.nd
    exact (ds_cons (ds_set 3 nd de_int)
    (ds_cons (ds_for PassesOwn.never rfl (di_range1 mm_range (da_cons (de_mod (de_intOf mm_int (da_cons (de_var 1) da_nil)) de_int) da_nil)) (dg_name 4 nd) (ds_one (ds_set 3 nd (de_mul (de_var 3) de_int))))
    (ds_cons (ds_set 5 nd (de_fdiv (de_sub (de_var 0) (de_pow de_int de_int)) (de_var 3)))
    (ds_cons (ds_if (dt_gt (de_var 5) de_int) (ds_one (ds_ret (de_mod (de_mod (de_intOf mm_int (da_cons (de_var 5) da_nil)) de_int) (de_var 2)))) ds_nil)
    (ds_cons (ds_set 6 nd (de_mod (de_intOf mm_int (da_cons (de_var 0) da_nil)) de_int))
    (ds_one (ds_ret (de_mod (de_call G__law_draw (hr.mono (by decide)) m__law_draw k__law_draw b__law_draw pass0 (da_cons (de_mul (de_add rfl (de_var 6) (de_mul de_int (de_var 1))) (de_add rfl (de_add rfl (de_var 6) (de_mul de_int (de_var 1))) de_int)) (da_cons (de_add rfl (de_mod (de_intOf mm_int (da_cons (de_var 1) da_nil)) de_int) de_int) (da_cons de_int da_nil)))) (de_var 2)))))))))
theorem ok__law_next {f : Addr} {fd : FuncData} (D : Fun K "_law_next" "_law_next" s__law_next f fd) {f__law_cell_at : Addr} {fd__law_cell_at : FuncData} (G__law_cell_at : FnOk P w K mg base CX0 1 f__law_cell_at fd__law_cell_at ["_law_script", "_law_k"] (spF K g__law_cell_at)) (m__law_cell_at : mg "_law_cell_at" = some (.ref f__law_cell_at)) (k__law_cell_at : PySem.W.keepIn K (.ref f__law_cell_at) = true) (b__law_cell_at : Binds K fd__law_cell_at ["_law_script", "_law_k"] []) {f__law_number : Addr} {fd__law_number : FuncData} (G__law_number : FnOk P w K mg base CX0 2 f__law_number fd__law_number ["_law_cell", "_law_k", "_law_bound"] (spF K g__law_number)) (m__law_number : mg "_law_number" = some (.ref f__law_number)) (k__law_number : PySem.W.keepIn K (.ref f__law_number) = true) (b__law_number : Binds K fd__law_number ["_law_cell", "_law_k", "_law_bound"] []) (mm_int : mg "int" = none) : FnOk P w K mg base CX0 3 f fd ["_law_draw_here", "_law_bound"] (spF K g__law_next) :=
  def_ok D sc__law_next (by decide) fun cdv A outer s H E H0 as0 O0 hr => by
    have nd := sc__law_next.nd
    exact (ds_cons (ds_item (de_add rfl (de_ix rfl (de_var 0) de_int) de_int) (de_var 0) de_int)
    (ds_cons (ds_set 2 nd (de_fdiv (de_ix rfl (de_var 0) de_int) de_int))
    (ds_cons (ds_set 3 nd (de_add rfl (de_call G__law_cell_at (hr.mono (by decide)) m__law_cell_at k__law_cell_at b__law_cell_at pass0 (da_cons (de_ix rfl (de_var 0) de_int) (da_cons (de_add rfl (de_ix rfl (de_var 0) de_int) (de_var 2)) da_nil))) (de_mul de_int (de_var 2))))
    (ds_one (ds_ret (de_call G__law_number (hr.mono (by decide)) m__law_number k__law_number b__law_number pass0 (da_cons (de_var 3) (da_cons (de_add rfl (de_mod (de_intOf mm_int (da_cons (de_ix rfl (de_var 0) de_int) da_nil)) de_int) de_int) (da_cons (de_var 1) da_nil)))))))))
theorem ok__law_common {f : Addr} {fd : FuncData} (D : Fun K "_law_common" "_law_common" s__law_common f fd) (mm_abs : mg "abs" = none) (mm_range : mg "range" = none) : FnOk P w K mg base CX0 1 f fd ["_law_a", "_law_b"] (spF K g__law_common) :=
  def_ok D sc__law_common (by decide) fun cdv A outer s H E H0 as0 O0 hr => by
    have nd := sc__law_common.nd
    exact (ds_cons (ds_par 0 1 rfl nd (da_cons (de_abs mm_abs (da_cons (de_var 0) da_nil)) (da_cons (de_abs mm_abs (da_cons (de_var 1) da_nil)) da_nil)))
    (ds_cons (ds_for PassesOwn.never rfl (di_range1 mm_range (da_cons de_int da_nil)) (dg_name 2 nd) (ds_cons (ds_if (dt_eq hr.units rfl (de_var 1) de_int) (ds_one (ds_ret (de_var 0))) ds_nil)
    (ds_one (ds_par 0 1 rfl nd (da_cons (de_var 1) (da_cons (de_mod (de_var 0) (de_var 1)) da_nil))))))
    (ds_one (ds_ret (de_var 0)))))
theorem ok__law_frac {f : Addr} {fd : FuncData} (D : Fun K "_law_frac" "_law_frac" s__law_frac f fd) {f__law_common : Addr} {fd__law_common : FuncData} (G__law_common : FnOk P w K mg base CX0 1 f__law_common fd__law_common ["_law_a", "_law_b"] (spF K g__law_common)) (m__law_common : mg "_law_common" = some (.ref f__law_common)) (k__law_common : PySem.W.keepIn K (.ref f__law_common) = true) (b__law_common : Binds K fd__law_common ["_law_a", "_law_b"] []) : FnOk P w K mg base CX0 2 f fd ["_law_n", "_law_d"] (spF K g__law_frac) :=
  def_ok D sc__law_frac (by decide) fun cdv A outer s H E H0 as0 O0 hr => by
    have nd := sc__law_frac.nd
    exact (ds_cons (ds_if (dt_lt (de_var 1) de_int) (ds_one (ds_par 0 1 rfl nd (da_cons (de_neg (de_var 0)) (da_cons (de_neg (de_var 1)) da_nil)))) ds_nil)
    (ds_cons (ds_set 2 nd (de_call G__law_common (hr.mono (by decide)) m__law_common k__law_common b__law_common pass0 (da_cons (de_var 0) (da_cons (de_var 1) da_nil))))
    (ds_one (ds_ret (de_tup (da_cons (de_fdiv (de_var 0) (de_var 2)) (da_cons (de_fdiv (de_var 1) (de_var 2)) da_nil)))))))
theorem ok__law_sign {f : Addr} {fd : FuncData} (D : Fun K "_law_sign" "_law_sign" s__law_sign f fd) : FnOk P w K mg base CX0 1 f fd ["_law_number_here"] (spF K g__law_sign) :=
  def_ok D sc__law_sign (by decide) fun cdv A outer s H E H0 as0 O0 hr => by
    have nd := sc__law_sign.nd
    exact (ds_one (ds_ret (de_if (dt_gt (de_var 0) de_int) de_int (de_if (dt_eq hr.units rfl (de_var 0) de_int) de_int (de_neg de_int)))))
theorem ok__law_at {f : Addr} {fd : FuncData} (D : Fun K "_law_at" "_law_at" s__law_at f fd) {f__law_sign : Addr} {fd__law_sign : FuncData} (G__law_sign : FnOk P w K mg base CX0 1 f__law_sign fd__law_sign ["_law_number_here"] (spF K g__law_sign)) (m__law_sign : mg "_law_sign" = some (.ref f__law_sign)) (k__law_sign : PySem.W.keepIn K (.ref f__law_sign) = true) (b__law_sign : Binds K fd__law_sign ["_law_number_here"] []) : FnOk P w K mg base CX0 2 f fd ["_law_poly_here", "_law_n", "_law_d"] (spF K g__law_at) :=
  def_ok D sc__law_at (by decide) fun cdv A outer s H E H0 as0 O0 hr => by
    have nd := sc__law_at.nd
    exact (ds_one (ds_ret (de_call G__law_sign (hr.mono (by decide)) m__law_sign k__law_sign b__law_sign pass0 (da_cons (de_add rfl (de_add rfl (de_mul (de_mul (de_ix rfl (de_var 0) de_int) (de_var 2)) (de_var 2)) (de_mul (de_mul (de_ix rfl (de_var 0) de_int) (de_var 1)) (de_var 2))) (de_mul (de_mul (de_ix rfl (de_var 0) de_int) (de_var 1)) (de_var 1))) da_nil))))
theorem ok__law_root_of {f : Addr} {fd : FuncData} (D : Fun K "_law_root_of" "_law_root_of" s__law_root_of f fd) (mm_range : mg "range" = none) : FnOk P w K mg base CX0 1 f fd ["_law_number_here"] (spF K g__law_root_of) :=
  def_ok D sc__law_root_of (by decide) fun cdv A outer s H E H0 as0 O0 hr => by
    have nd := sc__law_root_of.nd
    exact (ds_cons (ds_par 1 2 rfl nd (da_cons de_int (da_cons (de_add rfl (de_var 0) de_int) da_nil)))
    (ds_cons (ds_for PassesOwn.never rfl (di_range1 mm_range (da_cons de_int da_nil)) (dg_name 3 nd) (ds_cons (ds_set 4 nd (de_fdiv (de_add rfl (de_var 1) (de_var 2)) de_int))
    (ds_one (ds_if (dt_le (de_mul (de_var 4) (de_var 4)) (de_var 0)) (ds_one (ds_set 1 nd (de_var 4))) (ds_one (ds_set 2 nd (de_var 4)))))))
    (ds_one (ds_ret (de_var 1)))))
theorem ok__law_poly {f : Addr} {fd : FuncData} (D : Fun K "_law_poly" "_law_poly" s__law_poly f fd) {f__law_next : Addr} {fd__law_next : FuncData} (G__law_next : FnOk P w K mg base CX0 3 f__law_next fd__law_next ["_law_draw_here", "_law_bound"] (spF K g__law_next)) (m__law_next : mg "_law_next" = some (.ref f__law_next)) (k__law_next : PySem.W.keepIn K (.ref f__law_next) = true) (b__law_next : Binds K fd__law_next ["_law_draw_here", "_law_bound"] []) {f__law_common : Addr} {fd__law_common : FuncData} (G__law_common : FnOk P w K mg base CX0 1 f__law_common fd__law_common ["_law_a", "_law_b"] (spF K g__law_common)) (m__law_common : mg "_law_common" = some (.ref f__law_common)) (k__law_common : PySem.W.keepIn K (.ref f__law_common) = true) (b__law_common : Binds K fd__law_common ["_law_a", "_law_b"] []) (mm_max : mg "max" = none) (mm_range : mg "range" = none) (mm_tuple : mg "tuple" = none) : FnOk P w K mg base CX0 4 f fd ["_law_draw_here", "_law_big"] (spF K g__law_poly) :=
  def_ok D sc__law_poly (by decide) fun cdv A outer s H E H0 as0 O0 hr => by
    have nd := sc__law_poly.nd
    exact (ds_cons (ds_set 2 nd (de_call G__law_next (hr.mono (by decide)) m__law_next k__law_next b__law_next pass0 (da_cons (de_var 0) (da_cons de_int da_nil))))
    (ds_cons (ds_ownLc 3 (own := [("_law_turn", 10)]) rfl nd (blkOk_by (N := ["_law_draw_here", "_law_big", "_law_kind", "_law_some", "_law_by", "_law_a", "_law_b", "_law_c", "_law_d", "_law_m", "_law_turn", "_law_number_here"]) (sc := defScope s__law_poly) (by decide +kernel)) (sw_true rfl rfl rfl (by decide +kernel)) (di_range1 mm_range (da_cons de_int da_nil)) (fun _ _ _ _ _ => (dg_name 10 nd)) (fun _ _ _ _ _ => dts_nil) (fun _ _ _ _ _ => (de_sub (de_call G__law_next (hr.mono (by decide)) m__law_next k__law_next b__law_next pass0 (da_cons (de_var 0) (da_cons (de_add rfl (de_mul de_int (de_var 1)) de_int) da_nil))) (de_var 1))))
    (ds_cons (ds_if (dt_eq hr.units rfl (de_var 2) de_int) (ds_cons (ds_asg (de_tup (da_cons (de_add rfl de_int (de_call G__law_next (hr.mono (by decide)) m__law_next k__law_next b__law_next pass0 (da_cons (de_var 0) (da_cons de_int da_nil)))) (da_cons (de_sub (de_call G__law_next (hr.mono (by decide)) m__law_next k__law_next b__law_next pass0 (da_cons (de_var 0) (da_cons de_int da_nil))) de_int) (da_cons (de_add rfl de_int (de_call G__law_next (hr.mono (by decide)) m__law_next k__law_next b__law_next pass0 (da_cons (de_var 0) (da_cons de_int da_nil)))) (da_cons (de_sub (de_call G__law_next (hr.mono (by decide)) m__law_next k__law_next b__law_next pass0 (da_cons (de_var 0) (da_cons de_int da_nil))) de_int) da_nil))))) (dg_tup rfl rfl (dgs_cons (dg_name 5 nd) (dgs_cons (dg_name 6 nd) (dgs_cons (dg_name 7 nd) (dgs_cons (dg_name 8 nd) dgs_nil))))))
    (ds_one (ds_setOwn 3 nd (da_cons (de_mul (de_var 6) (de_var 8)) (da_cons (de_sub (de_mul (de_neg (de_var 6)) (de_var 7)) (de_mul (de_var 5) (de_var 8))) (da_cons (de_mul (de_var 5) (de_var 7)) da_nil)))))) ds_nil)
    (ds_cons (ds_if (dt_eq hr.units rfl (de_var 2) de_int) (ds_one (ds_itemOwn 3 de_int de_int)) ds_nil)
    (ds_cons (ds_if (dt_eq hr.units rfl (de_var 2) de_int) (ds_cons (ds_par 7 9 rfl nd (da_cons (de_add rfl de_int (de_call G__law_next (hr.mono (by decide)) m__law_next k__law_next b__law_next pass0 (da_cons (de_var 0) (da_cons de_int da_nil)))) (da_cons (de_add rfl de_int (de_call G__law_next (hr.mono (by decide)) m__law_next k__law_next b__law_next pass0 (da_cons (de_var 0) (da_cons de_int da_nil)))) da_nil)))
    (ds_one (ds_setOwn 3 nd (da_cons (de_sub (de_call G__law_next (hr.mono (by decide)) m__law_next k__law_next b__law_next pass0 (da_cons (de_var 0) (da_cons de_int da_nil))) de_int) (da_cons (de_neg (de_var 9)) (da_cons (de_mul (de_var 7) (de_var 9)) da_nil)))))) ds_nil)
    (ds_cons (ds_set 4 nd (de_max rfl rfl mm_max (da_cons (de_lst (da_cons de_int (da_cons (de_call G__law_common (hr.mono (by decide)) m__law_common k__law_common b__law_common pass0 (da_cons (de_call G__law_common (hr.mono (by decide)) m__law_common k__law_common b__law_common pass0 (da_cons (de_ixOwn 3 rfl de_int) (da_cons (de_ixOwn 3 rfl de_int) da_nil))) (da_cons (de_ixOwn 3 rfl de_int) da_nil))) da_nil))) da_nil)))
    (ds_one (ds_freeze 3 (ds_ret (de_tupOf rfl mm_tuple (da_cons (de_lc (own := [("_law_number_here", 11)]) rfl nd (blkOk_by (N := ["_law_draw_here", "_law_big", "_law_kind", "_law_some", "_law_by", "_law_a", "_law_b", "_law_c", "_law_d", "_law_m", "_law_turn", "_law_number_here"]) (sc := defScope s__law_poly) (by decide +kernel)) (di_seq rfl (de_var 3)) (fun _ _ _ _ _ => (dg_name 11 nd)) (fun _ _ _ _ _ => dts_nil) (fun _ _ _ _ _ => (de_fdiv (de_var 11) (de_var 4)))) da_nil)))))))))))
theorem ok__law_roots {f : Addr} {fd : FuncData} (D : Fun K "_law_roots" "_law_roots" s__law_roots f fd) {f__law_frac : Addr} {fd__law_frac : FuncData} (G__law_frac : FnOk P w K mg base CX0 2 f__law_frac fd__law_frac ["_law_n", "_law_d"] (spF K g__law_frac)) (m__law_frac : mg "_law_frac" = some (.ref f__law_frac)) (k__law_frac : PySem.W.keepIn K (.ref f__law_frac) = true) (b__law_frac : Binds K fd__law_frac ["_law_n", "_law_d"] []) {f__law_root_of : Addr} {fd__law_root_of : FuncData} (G__law_root_of : FnOk P w K mg base CX0 1 f__law_root_of fd__law_root_of ["_law_number_here"] (spF K g__law_root_of)) (m__law_root_of : mg "_law_root_of" = some (.ref f__law_root_of)) (k__law_root_of : PySem.W.keepIn K (.ref f__law_root_of) = true) (b__law_root_of : Binds K fd__law_root_of ["_law_number_here"] []) : FnOk P w K mg base CX0 3 f fd ["_law_poly_here"] (spF K g__law_roots) :=
  def_ok D sc__law_roots (by decide) fun cdv A outer s H E H0 as0 O0 hr => by
    have nd := sc__law_roots.nd
    exact (ds_cons (ds_asg (de_var 0) (dg_tup rfl rfl (dgs_cons (dg_name 1 nd) (dgs_cons (dg_name 2 nd) (dgs_cons (dg_name 3 nd) dgs_nil)))))
    (ds_cons (ds_if (dt_eq hr.units rfl (de_var 3) de_int) (ds_one (ds_ret (de_if (dt_eq hr.units rfl (de_var 2) de_int) (de_lst da_nil) (de_lst (da_cons (de_call G__law_frac (hr.mono (by decide)) m__law_frac k__law_frac b__law_frac pass0 (da_cons (de_neg (de_var 1)) (da_cons (de_var 2) da_nil))) da_nil))))) ds_nil)
    (ds_cons (ds_set 4 nd (de_sub (de_mul (de_var 2) (de_var 2)) (de_mul (de_mul de_int (de_var 1)) (de_var 3))))
    (ds_cons (ds_if (dt_lt (de_var 4) de_int) (ds_one (ds_ret (de_lst da_nil))) ds_nil)
    (ds_cons (ds_set 5 nd (de_call G__law_root_of (hr.mono (by decide)) m__law_root_of k__law_root_of b__law_root_of pass0 (da_cons (de_var 4) da_nil)))
    (ds_cons (ds_if (dt_eq hr.units rfl (de_mul (de_var 5) (de_var 5)) (de_var 4)) (ds_cons (ds_asg (de_if (dt_gt (de_var 3) de_int) (de_tup (da_cons (de_sub (de_neg (de_var 2)) (de_var 5)) (da_cons (de_add rfl (de_neg (de_var 2)) (de_var 5)) da_nil))) (de_tup (da_cons (de_add rfl (de_neg (de_var 2)) (de_var 5)) (da_cons (de_sub (de_neg (de_var 2)) (de_var 5)) da_nil)))) (dg_tup rfl rfl (dgs_cons (dg_name 7 nd) (dgs_cons (dg_name 8 nd) dgs_nil))))
    (ds_cons (ds_set 9 nd (de_lst (da_cons (de_call G__law_frac (hr.mono (by decide)) m__law_frac k__law_frac b__law_frac pass0 (da_cons (de_var 7) (da_cons (de_mul de_int (de_var 3)) da_nil))) (da_cons (de_call G__law_frac (hr.mono (by decide)) m__law_frac k__law_frac b__law_frac pass0 (da_cons (de_var 8) (da_cons (de_mul de_int (de_var 3)) da_nil))) da_nil))))
    (ds_one (ds_ret (de_if (dt_eq hr.units rfl (de_var 4) de_int) (de_slice rfl (de_var 9) do_none (do_some de_int)) (de_var 9)))))) ds_nil)
    (ds_cons (ds_set 6 nd (de_if (dt_gt (de_var 3) de_int) (de_var 0) (de_tup (da_cons (de_neg (de_var 1)) (da_cons (de_neg (de_var 2)) (da_cons (de_neg (de_var 3)) da_nil))))))
    (ds_one (ds_ret (de_lst (da_cons (de_tup (da_cons de_str (da_cons (de_var 6) (da_cons de_int da_nil)))) (da_cons (de_tup (da_cons de_str (da_cons (de_var 6) (da_cons de_int da_nil)))) da_nil))))))))))))
theorem ok__law_span {f : Addr} {fd : FuncData} (D : Fun K "_law_span" "_law_span" s__law_span f fd) {f__law_at : Addr} {fd__law_at : FuncData} (G__law_at : FnOk P w K mg base CX0 2 f__law_at fd__law_at ["_law_poly_here", "_law_n", "_law_d"] (spF K g__law_at)) (m__law_at : mg "_law_at" = some (.ref f__law_at)) (k__law_at : PySem.W.keepIn K (.ref f__law_at) = true) (b__law_at : Binds K fd__law_at ["_law_poly_here", "_law_n", "_law_d"] []) (mm_abs : mg "abs" = none) (mm_range : mg "range" = none) : FnOk P w K mg base CX0 3 f fd ["_law_place"] (spF K g__law_span) :=
  def_ok D sc__law_span (by decide) fun cdv A outer s H E H0 as0 O0 hr => by
    have nd := sc__law_span.nd
    exact (ds_cons (ds_if (dt_ne hr.units rfl (de_ix rfl (de_var 0) de_int) de_str) (ds_cons (ds_set 5 nd (de_fdiv (de_mul (de_ix rfl (de_var 0) de_int) (de_shl de_int de_int)) (de_ix rfl (de_var 0) de_int)))
    (ds_one (ds_ret (de_tup (da_cons (de_var 5) (da_cons (de_add rfl (de_var 5) de_int) da_nil)))))) ds_nil)
    (ds_cons (ds_asg (de_var 0) (dg_tup rfl rfl (dgs_cons (dg_name 1 nd) (dgs_cons (dg_name 2 nd) (dgs_cons (dg_name 3 nd) dgs_nil)))))
    (ds_cons (ds_set 4 nd (de_mul (de_add rfl (de_add rfl (de_abs mm_abs (da_cons (de_ix rfl (de_var 2) de_int) da_nil)) (de_abs mm_abs (da_cons (de_ix rfl (de_var 2) de_int) da_nil))) de_int) (de_shl de_int de_int)))
    (ds_cons (ds_par 5 6 rfl nd (da_cons (de_neg (de_var 4)) (da_cons (de_var 4) da_nil)))
    (ds_cons (ds_for PassesOwn.never rfl (di_range1 mm_range (da_cons de_int da_nil)) (dg_name 7 nd) (ds_cons (ds_set 8 nd (de_fdiv (de_add rfl (de_var 5) (de_var 6)) de_int))
    (ds_cons (ds_set 9 nd (de_gt (de_add rfl (de_mul (de_mul de_int (de_ix rfl (de_var 2) de_int)) (de_var 8)) (de_mul (de_ix rfl (de_var 2) de_int) (de_shl de_int de_int))) de_int))
    (ds_cons (ds_set 10 nd (de_lt (de_call G__law_at (hr.mono (by decide)) m__law_at k__law_at b__law_at pass0 (da_cons (de_var 2) (da_cons (de_var 8) (da_cons (de_shl de_int de_int) da_nil)))) de_int))
    (ds_one (ds_if (dt_bool (dw_or (dt_bool (dw_and (dt_eq hr.units rfl (de_var 3) de_int) (dw_and1 (dt_bool (dw_or (dt_val (de_var 9)) (dw_or1 (dt_val (de_var 10)))))))) (dw_or1 (dt_bool (dw_and (dt_eq hr.units rfl (de_var 3) de_int) (dw_and (dt_val (de_var 9)) (dw_and1 (dt_not (dt_val (de_var 10)))))))))) (ds_one (ds_set 6 nd (de_var 8))) (ds_one (ds_set 5 nd (de_var 8)))))))))
    (ds_one (ds_ret (de_tup (da_cons (de_var 5) (da_cons (de_var 6) da_nil))))))))))
theorem ok__law_order {f : Addr} {fd : FuncData} (D : Fun K "_law_order" "_law_order" s__law_order f fd) {f__law_sign : Addr} {fd__law_sign : FuncData} (G__law_sign : FnOk P w K mg base CX0 1 f__law_sign fd__law_sign ["_law_number_here"] (spF K g__law_sign)) (m__law_sign : mg "_law_sign" = some (.ref f__law_sign)) (k__law_sign : PySem.W.keepIn K (.ref f__law_sign) = true) (b__law_sign : Binds K fd__law_sign ["_law_number_here"] []) {f__law_span : Addr} {fd__law_span : FuncData} (G__law_span : FnOk P w K mg base CX0 3 f__law_span fd__law_span ["_law_place"] (spF K g__law_span)) (m__law_span : mg "_law_span" = some (.ref f__law_span)) (k__law_span : PySem.W.keepIn K (.ref f__law_span) = true) (b__law_span : Binds K fd__law_span ["_law_place"] []) : FnOk P w K mg base CX0 4 f fd ["_law_one", "_law_other"] (spF K g__law_order) :=
  def_ok D sc__law_order (by decide) fun cdv A outer s H E H0 as0 O0 hr => by
    have nd := sc__law_order.nd
    exact (ds_cons (ds_if (dt_eq hr.units rfl (de_var 0) (de_var 1)) (ds_one (ds_ret de_int)) ds_nil)
    (ds_cons (ds_if (dt_bool (dw_and (dt_ne hr.units rfl (de_ix rfl (de_var 0) de_int) de_str) (dw_and1 (dt_ne hr.units rfl (de_ix rfl (de_var 1) de_int) de_str)))) (ds_one (ds_ret (de_call G__law_sign (hr.mono (by decide)) m__law_sign k__law_sign b__law_sign pass0 (da_cons (de_sub (de_mul (de_ix rfl (de_var 0) de_int) (de_ix rfl (de_var 1) de_int)) (de_mul (de_ix rfl (de_var 1) de_int) (de_ix rfl (de_var 0) de_int))) da_nil)))) ds_nil)
    (ds_cons (ds_par 2 3 rfl nd (da_cons (de_call G__law_span (hr.mono (by decide)) m__law_span k__law_span b__law_span pass0 (da_cons (de_var 0) da_nil)) (da_cons (de_call G__law_span (hr.mono (by decide)) m__law_span k__law_span b__law_span pass0 (da_cons (de_var 1) da_nil)) da_nil)))
    (ds_one (ds_ret (de_if (dt_lt (de_add rfl (de_ix rfl (de_var 2) de_int) (de_ix rfl (de_var 2) de_int)) (de_add rfl (de_ix rfl (de_var 3) de_int) (de_ix rfl (de_var 3) de_int))) (de_neg de_int) de_int))))))
theorem ok__law_in {f : Addr} {fd : FuncData} (D : Fun K "_law_in" "_law_in" s__law_in f fd) {f__law_order : Addr} {fd__law_order : FuncData} (G__law_order : FnOk P w K mg base CX0 4 f__law_order fd__law_order ["_law_one", "_law_other"] (spF K g__law_order)) (m__law_order : mg "_law_order" = some (.ref f__law_order)) (k__law_order : PySem.W.keepIn K (.ref f__law_order) = true) (b__law_order : Binds K fd__law_order ["_law_one", "_law_other"] []) : FnOk P w K mg base CX0 5 f fd ["_law_place"] (spF K g__law_in) :=
  def_ok D sc__law_in (by decide) fun cdv A outer s H E H0 as0 O0 hr => by
    have nd := sc__law_in.nd
    exact (ds_one (ds_ret (de_and (de_lt (de_call G__law_order (hr.mono (by decide)) m__law_order k__law_order b__law_order pass0 (da_cons (de_tup (da_cons de_int (da_cons de_int da_nil))) (da_cons (de_var 0) da_nil))) de_int) (de_one (de_lt (de_call G__law_order (hr.mono (by decide)) m__law_order k__law_order b__law_order pass0 (da_cons (de_var 0) (da_cons (de_tup (da_cons de_int (da_cons de_int da_nil))) da_nil))) de_int)))))
theorem ok__law_places {f : Addr} {fd : FuncData} (D : Fun K "_law_places" "_law_places" s__law_places f fd) {f__law_roots : Addr} {fd__law_roots : FuncData} (G__law_roots : FnOk P w K mg base CX0 3 f__law_roots fd__law_roots ["_law_poly_here"] (spF K g__law_roots)) (m__law_roots : mg "_law_roots" = some (.ref f__law_roots)) (k__law_roots : PySem.W.keepIn K (.ref f__law_roots) = true) (b__law_roots : Binds K fd__law_roots ["_law_poly_here"] []) {f__law_in : Addr} {fd__law_in : FuncData} (G__law_in : FnOk P w K mg base CX0 5 f__law_in fd__law_in ["_law_place"] (spF K g__law_in)) (m__law_in : mg "_law_in" = some (.ref f__law_in)) (k__law_in : PySem.W.keepIn K (.ref f__law_in) = true) (b__law_in : Binds K fd__law_in ["_law_place"] []) {f__law_order : Addr} {fd__law_order : FuncData} (G__law_order : FnOk P w K mg base CX0 4 f__law_order fd__law_order ["_law_one", "_law_other"] (spF K g__law_order)) (m__law_order : mg "_law_order" = some (.ref f__law_order)) (k__law_order : PySem.W.keepIn K (.ref f__law_order) = true) (b__law_order : Binds K fd__law_order ["_law_one", "_law_other"] []) (mm_len : mg "len" = none) : FnOk P w K mg base CX0 6 f fd ["_law_polys"] (spF K g__law_places) :=
  def_ok D sc__law_places (by decide) fun cdv A outer s H E H0 as0 O0 hr => by
    have nd := sc__law_places.nd
    exact (ds_cons (ds_set 1 nd (de_lst da_nil))
    (ds_cons (ds_for PassesOwn.never rfl (di_seq rfl (de_var 0)) (dg_name 2 nd) (ds_one (ds_for PassesOwn.never rfl (di_seq rfl (de_call G__law_roots (hr.mono (by decide)) m__law_roots k__law_roots b__law_roots pass0 (da_cons (de_var 2) da_nil))) (dg_name 3 nd) (ds_one (ds_if (dt_bool (dw_and (dt_val (de_call G__law_in (hr.mono (by decide)) m__law_in k__law_in b__law_in pass0 (da_cons (de_var 3) da_nil))) (dw_and1 (dt_notIn hr rfl (de_var 3) (de_var 1))))) (ds_cons (ds_set 4 nd (de_len rfl mm_len (da_cons (de_lc (own := [("_law_one", 5)]) rfl nd (blkOk_by (N := ["_law_polys", "_law_found", "_law_poly_here", "_law_place", "_law_at_here", "_law_one"]) (sc := defScope s__law_places) (by decide +kernel)) (di_seq rfl (de_var 1)) (fun _ _ _ _ _ => (dg_name 5 nd)) (fun _ _ _ _ _ => (dts_one (dt_lt (de_call G__law_order (hr.mono (by decide)) m__law_order k__law_order b__law_order pass0 (da_cons (de_var 5) (da_cons (de_var 3) da_nil))) de_int))) (fun _ _ _ _ _ => (de_var 5))) da_nil)))
    (ds_one (ds_set 1 nd (de_add rfl (de_add rfl (de_slice rfl (de_var 1) do_none (do_some (de_var 4))) (de_lst (da_cons (de_var 3) da_nil))) (de_slice rfl (de_var 1) (do_some (de_var 4)) do_none))))) ds_nil)))))
    (ds_one (ds_ret (de_var 1)))))
theorem ok_law {f : Addr} {fd : FuncData} (D : Fun K "law" "law" s_law f fd) {f__law_next : Addr} {fd__law_next : FuncData} (G__law_next : FnOk P w K mg base CX0 3 f__law_next fd__law_next ["_law_draw_here", "_law_bound"] (spF K g__law_next)) (m__law_next : mg "_law_next" = some (.ref f__law_next)) (k__law_next : PySem.W.keepIn K (.ref f__law_next) = true) (b__law_next : Binds K fd__law_next ["_law_draw_here", "_law_bound"] []) {f__law_poly : Addr} {fd__law_poly : FuncData} (G__law_poly : FnOk P w K mg base CX0 4 f__law_poly fd__law_poly ["_law_draw_here", "_law_big"] (spF K g__law_poly)) (m__law_poly : mg "_law_poly" = some (.ref f__law_poly)) (k__law_poly : PySem.W.keepIn K (.ref f__law_poly) = true) (b__law_poly : Binds K fd__law_poly ["_law_draw_here", "_law_big"] []) {f__law_places : Addr} {fd__law_places : FuncData} (G__law_places : FnOk P w K mg base CX0 6 f__law_places fd__law_places ["_law_polys"] (spF K g__law_places)) (m__law_places : mg "_law_places" = some (.ref f__law_places)) (k__law_places : PySem.W.keepIn K (.ref f__law_places) = true) (b__law_places : Binds K fd__law_places ["_law_polys"] []) {f_cells_of : Addr} {fd_cells_of : FuncData} (G_cells_of : FnOk P w K mg base CX0 9 f_cells_of fd_cells_of ["polys"] (spF K g_cells_of)) (m_cells_of : mg "cells_of" = some (.ref f_cells_of)) (k_cells_of : PySem.W.keepIn K (.ref f_cells_of) = true) (b_cells_of : Binds K fd_cells_of ["polys"] []) {f_sample : Addr} {fd_sample : FuncData} (G_sample : FnOk P w K mg base CX0 8 f_sample fd_sample ["cell"] (spF K g_sample)) (m_sample : mg "sample" = some (.ref f_sample)) (k_sample : PySem.W.keepIn K (.ref f_sample) = true) (b_sample : Binds K fd_sample ["cell"] []) {f_is_place : Addr} {fd_is_place : FuncData} (G_is_place : FnOk P w K mg base CX0 7 f_is_place fd_is_place ["thing"] (spF K g_is_place)) (m_is_place : mg "is_place" = some (.ref f_is_place)) (k_is_place : PySem.W.keepIn K (.ref f_is_place) = true) (b_is_place : Binds K fd_is_place ["thing"] []) {f__law_in : Addr} {fd__law_in : FuncData} (G__law_in : FnOk P w K mg base CX0 5 f__law_in fd__law_in ["_law_place"] (spF K g__law_in)) (m__law_in : mg "_law_in" = some (.ref f__law_in)) (k__law_in : PySem.W.keepIn K (.ref f__law_in) = true) (b__law_in : Binds K fd__law_in ["_law_place"] []) {f__law_order : Addr} {fd__law_order : FuncData} (G__law_order : FnOk P w K mg base CX0 4 f__law_order fd__law_order ["_law_one", "_law_other"] (spF K g__law_order)) (m__law_order : mg "_law_order" = some (.ref f__law_order)) (k__law_order : PySem.W.keepIn K (.ref f__law_order) = true) (b__law_order : Binds K fd__law_order ["_law_one", "_law_other"] []) {f__law_roots : Addr} {fd__law_roots : FuncData} (G__law_roots : FnOk P w K mg base CX0 3 f__law_roots fd__law_roots ["_law_poly_here"] (spF K g__law_roots)) (m__law_roots : mg "_law_roots" = some (.ref f__law_roots)) (k__law_roots : PySem.W.keepIn K (.ref f__law_roots) = true) (b__law_roots : Binds K fd__law_roots ["_law_poly_here"] []) {f_is_still : Addr} {fd_is_still : FuncData} (G_is_still : FnOk P w K mg base CX0 7 f_is_still fd_is_still ["poly", "cell"] (spF K g_is_still)) (m_is_still : mg "is_still" = some (.ref f_is_still)) (k_is_still : PySem.W.keepIn K (.ref f_is_still) = true) (b_is_still : Binds K fd_is_still ["poly", "cell"] []) (mm_list : mg "list" = none) (mm_range : mg "range" = none) : FnOk P w K mg base CX0 10 f fd ["_law_script"] (spF K g_law) :=
  def_ok D sc_law (by decide) fun cdv A outer s H E H0 as0 O0 hr => by
    have nd := sc_law.nd
    exact (ds_cons (ds_setCell 1 nd (da_cons (de_slice rfl (de_var 0) do_none (do_some de_int)) (da_cons de_int (da_cons de_int da_nil))))
    (ds_cons (ds_setLc 2 (own := [("_law_turn", 9)]) rfl nd (blkOk_by (N := ["_law_script", "_law_draw_here", "_law_polys", "_law_others", "_law_due", "_law_here", "_law_place", "_law_cell", "_law_poly_here", "_law_turn", "_law_inside", "_law_one"]) (sc := defScope s_law) (by decide +kernel)) (sw_true rfl rfl rfl (by decide +kernel)) (di_range1 mm_range (da_cons (de_call G__law_next (hr.mono (by decide)) m__law_next k__law_next b__law_next pass0 (da_cons (de_var 1) (da_cons de_int da_nil))) da_nil)) (fun _ _ _ _ _ => (dg_name 9 nd)) (fun _ _ _ _ _ => dts_nil) (fun _ _ _ _ _ => (de_call G__law_poly (hr.mono (by decide)) m__law_poly k__law_poly b__law_poly pass0 (da_cons (de_var 1) (da_cons de_int da_nil)))))
    (ds_cons (ds_set 3 nd (de_add rfl (de_lc (own := [("_law_turn", 9)]) rfl nd (blkOk_by (N := ["_law_script", "_law_draw_here", "_law_polys", "_law_others", "_law_due", "_law_here", "_law_place", "_law_cell", "_law_poly_here", "_law_turn", "_law_inside", "_law_one"]) (sc := defScope s_law) (by decide +kernel)) (di_range1 mm_range (da_cons de_int da_nil)) (fun _ _ _ _ _ => (dg_name 9 nd)) (fun _ _ _ _ _ => dts_nil) (fun _ _ _ _ _ => (de_call G__law_poly (hr.mono (by decide)) m__law_poly k__law_poly b__law_poly pass0 (da_cons (de_var 1) (da_cons de_int da_nil))))) (de_lst (da_cons (de_tup (da_cons de_int (da_cons de_int (da_cons de_int da_nil)))) (da_cons (de_tup (da_cons de_int (da_cons de_int (da_cons de_int da_nil)))) da_nil)))))
    (ds_cons (ds_parOwn 4 5 rfl nd da_nil (de_tup (da_cons de_int (da_cons de_int da_nil))))
    (ds_cons (ds_for PassesOwn.never rfl (di_seq rfl (de_call G__law_places (hr.mono (by decide)) m__law_places k__law_places b__law_places pass0 (da_cons (de_var 2) da_nil))) (dg_name 6 nd) (ds_cons (ds_freeze 4 (ds_own 4 nd (dn_cat (de_var 4) (de_lst (da_cons (de_tup (da_cons de_str (da_cons (de_var 5) (da_cons (de_var 6) da_nil)))) (da_cons (de_tup (da_cons de_str (da_cons (de_var 6) da_nil))) da_nil))))))
    (ds_one (ds_set 5 nd (de_var 6)))))
    (ds_cons (ds_append 4 (de_tup (da_cons de_str (da_cons (de_var 5) (da_cons (de_tup (da_cons de_int (da_cons de_int da_nil))) da_nil)))))
    (ds_cons (ds_freeze 4 (ds_if (dt_ne hr.units rfl (de_lstOf rfl mm_list (da_cons (de_call G_cells_of (hr.mono (by decide)) m_cells_of k_cells_of b_cells_of pass0 (da_cons (de_var 2) da_nil)) da_nil)) (de_var 4)) (ds_one (ds_ret de_bl)) ds_nil))
    (ds_cons (ds_freeze 4 (ds_for PassesOwn.never rfl (di_seq rfl (de_var 4)) (dg_name 7 nd) (ds_cons (ds_set 6 nd (de_call G_sample (hr.mono (by decide)) m_sample k_sample b_sample pass0 (da_cons (de_var 7) da_nil)))
    (ds_cons (ds_if (dt_bool (dw_or (dt_not (dt_val (de_call G_is_place (hr.mono (by decide)) m_is_place k_is_place b_is_place pass0 (da_cons (de_var 6) da_nil)))) (dw_or1 (dt_not (dt_val (de_call G__law_in (hr.mono (by decide)) m__law_in k__law_in b__law_in pass0 (da_cons (de_var 6) da_nil))))))) (ds_one (ds_ret de_bl)) ds_nil)
    (ds_cons (ds_if (dt_bool (dw_and (dt_eq hr.units rfl (de_ix rfl (de_var 7) de_int) de_str) (dw_and1 (dt_ne hr.units rfl (de_call G__law_order (hr.mono (by decide)) m__law_order k__law_order b__law_order pass0 (da_cons (de_var 6) (da_cons (de_ix rfl (de_var 7) de_int) da_nil))) de_int)))) (ds_one (ds_ret de_bl)) ds_nil)
    (ds_cons (ds_if (dt_bool (dw_and (dt_eq hr.units rfl (de_ix rfl (de_var 7) de_int) de_str) (dw_and1 (dt_bool (dw_or (dt_ge (de_call G__law_order (hr.mono (by decide)) m__law_order k__law_order b__law_order pass0 (da_cons (de_ix rfl (de_var 7) de_int) (da_cons (de_var 6) da_nil))) de_int) (dw_or1 (dt_ge (de_call G__law_order (hr.mono (by decide)) m__law_order k__law_order b__law_order pass0 (da_cons (de_var 6) (da_cons (de_ix rfl (de_var 7) de_int) da_nil))) de_int))))))) (ds_one (ds_ret de_bl)) ds_nil)
    (ds_one (ds_for PassesOwn.never rfl (di_seq rfl (de_add rfl (de_var 2) (de_var 3))) (dg_name 8 nd) (ds_cons (ds_setLc 10 (own := [("_law_one", 11)]) rfl nd (blkOk_by (N := ["_law_script", "_law_draw_here", "_law_polys", "_law_others", "_law_due", "_law_here", "_law_place", "_law_cell", "_law_poly_here", "_law_turn", "_law_inside", "_law_one"]) (sc := defScope s_law) (by decide +kernel)) (sw_true rfl rfl rfl (by decide +kernel)) (di_seq rfl (de_call G__law_roots (hr.mono (by decide)) m__law_roots k__law_roots b__law_roots pass0 (da_cons (de_var 8) da_nil))) (fun _ _ _ _ _ => (dg_name 11 nd)) (fun _ _ _ _ _ => (dts_one (dt_bool (dw_and (dt_eq hr.units rfl (de_ix rfl (de_var 7) de_int) de_str) (dw_and (dt_lt (de_call G__law_order (hr.mono (by decide)) m__law_order k__law_order b__law_order pass0 (da_cons (de_ix rfl (de_var 7) de_int) (da_cons (de_var 11) da_nil))) de_int) (dw_and1 (dt_lt (de_call G__law_order (hr.mono (by decide)) m__law_order k__law_order b__law_order pass0 (da_cons (de_var 11) (da_cons (de_ix rfl (de_var 7) de_int) da_nil))) de_int))))))) (fun _ _ _ _ _ => (de_var 11)))
    (ds_one (ds_if (dt_ne hr.units rfl (de_call G_is_still (hr.mono (by decide)) m_is_still k_is_still b_is_still pass0 (da_cons (de_var 8) (da_cons (de_var 7) da_nil))) (de_eq hr.units rfl (de_var 10) (de_lst da_nil))) (ds_one (ds_ret de_bl)) ds_nil)))))))))))
    (ds_one (ds_ret de_bl))))))))))
end
theorem all_mk {l : PySem.W.OpenLaw} {w : World} {K : PySem.W.Frag} {h : Heap} {mg : Str → Option Value} {fa : Addr} (X : K.In h) (G : h.Ns mainGlobals mg) (hfa : mg "law" = some (.ref fa))
    {f0 : Addr} {od0 an0 : Option Addr} {sl0 : Array (Option Value)} {oc0 kV0 dc0 pm0 cd0 ct0 : Value} (a0 : PySem.W.nsIn K mainGlobals "_law_cell_at" = some (some (.ref f0))) (l0 : K.lookup f0 = some ⟨oc0, od0, .func (PySem.W.fnOf "_law_cell_at" "_law_cell_at" (defArgs s__law_cell_at) (defBody s__law_cell_at) (defScope s__law_cell_at) .none kV0 dc0 pm0 an0 cd0 ct0), sl0⟩) (c0 : PySem.W.codeIn K cd0 "_law_cell_at" = true) (k0 : PySem.W.keepIn K (.ref f0) = true)
    {f1 : Addr} {od1 an1 : Option Addr} {sl1 : Array (Option Value)} {oc1 kV1 dc1 pm1 cd1 ct1 : Value} (a1 : PySem.W.nsIn K mainGlobals "_law_draw" = some (some (.ref f1))) (l1 : K.lookup f1 = some ⟨oc1, od1, .func (PySem.W.fnOf "_law_draw" "_law_draw" (defArgs s__law_draw) (defBody s__law_draw) (defScope s__law_draw) .none kV1 dc1 pm1 an1 cd1 ct1), sl1⟩) (c1 : PySem.W.codeIn K cd1 "_law_draw" = true) (k1 : PySem.W.keepIn K (.ref f1) = true)
    {f2 : Addr} {od2 an2 : Option Addr} {sl2 : Array (Option Value)} {oc2 kV2 dc2 pm2 cd2 ct2 : Value} (a2 : PySem.W.nsIn K mainGlobals "_law_number" = some (some (.ref f2))) (l2 : K.lookup f2 = some ⟨oc2, od2, .func (PySem.W.fnOf "_law_number" "_law_number" (defArgs s__law_number) (defBody s__law_number) (defScope s__law_number) .none kV2 dc2 pm2 an2 cd2 ct2), sl2⟩) (c2 : PySem.W.codeIn K cd2 "_law_number" = true) (k2 : PySem.W.keepIn K (.ref f2) = true)
    {f3 : Addr} {od3 an3 : Option Addr} {sl3 : Array (Option Value)} {oc3 kV3 dc3 pm3 cd3 ct3 : Value} (a3 : PySem.W.nsIn K mainGlobals "_law_next" = some (some (.ref f3))) (l3 : K.lookup f3 = some ⟨oc3, od3, .func (PySem.W.fnOf "_law_next" "_law_next" (defArgs s__law_next) (defBody s__law_next) (defScope s__law_next) .none kV3 dc3 pm3 an3 cd3 ct3), sl3⟩) (c3 : PySem.W.codeIn K cd3 "_law_next" = true) (k3 : PySem.W.keepIn K (.ref f3) = true)
    {f4 : Addr} {od4 an4 : Option Addr} {sl4 : Array (Option Value)} {oc4 kV4 dc4 pm4 cd4 ct4 : Value} (a4 : PySem.W.nsIn K mainGlobals "_law_common" = some (some (.ref f4))) (l4 : K.lookup f4 = some ⟨oc4, od4, .func (PySem.W.fnOf "_law_common" "_law_common" (defArgs s__law_common) (defBody s__law_common) (defScope s__law_common) .none kV4 dc4 pm4 an4 cd4 ct4), sl4⟩) (c4 : PySem.W.codeIn K cd4 "_law_common" = true) (k4 : PySem.W.keepIn K (.ref f4) = true)
    {f5 : Addr} {od5 an5 : Option Addr} {sl5 : Array (Option Value)} {oc5 kV5 dc5 pm5 cd5 ct5 : Value} (a5 : PySem.W.nsIn K mainGlobals "_law_poly" = some (some (.ref f5))) (l5 : K.lookup f5 = some ⟨oc5, od5, .func (PySem.W.fnOf "_law_poly" "_law_poly" (defArgs s__law_poly) (defBody s__law_poly) (defScope s__law_poly) .none kV5 dc5 pm5 an5 cd5 ct5), sl5⟩) (c5 : PySem.W.codeIn K cd5 "_law_poly" = true) (k5 : PySem.W.keepIn K (.ref f5) = true)
    {f6 : Addr} {od6 an6 : Option Addr} {sl6 : Array (Option Value)} {oc6 kV6 dc6 pm6 cd6 ct6 : Value} (a6 : PySem.W.nsIn K mainGlobals "_law_frac" = some (some (.ref f6))) (l6 : K.lookup f6 = some ⟨oc6, od6, .func (PySem.W.fnOf "_law_frac" "_law_frac" (defArgs s__law_frac) (defBody s__law_frac) (defScope s__law_frac) .none kV6 dc6 pm6 an6 cd6 ct6), sl6⟩) (c6 : PySem.W.codeIn K cd6 "_law_frac" = true) (k6 : PySem.W.keepIn K (.ref f6) = true)
    {f7 : Addr} {od7 an7 : Option Addr} {sl7 : Array (Option Value)} {oc7 kV7 dc7 pm7 cd7 ct7 : Value} (a7 : PySem.W.nsIn K mainGlobals "_law_root_of" = some (some (.ref f7))) (l7 : K.lookup f7 = some ⟨oc7, od7, .func (PySem.W.fnOf "_law_root_of" "_law_root_of" (defArgs s__law_root_of) (defBody s__law_root_of) (defScope s__law_root_of) .none kV7 dc7 pm7 an7 cd7 ct7), sl7⟩) (c7 : PySem.W.codeIn K cd7 "_law_root_of" = true) (k7 : PySem.W.keepIn K (.ref f7) = true)
    {f8 : Addr} {od8 an8 : Option Addr} {sl8 : Array (Option Value)} {oc8 kV8 dc8 pm8 cd8 ct8 : Value} (a8 : PySem.W.nsIn K mainGlobals "_law_roots" = some (some (.ref f8))) (l8 : K.lookup f8 = some ⟨oc8, od8, .func (PySem.W.fnOf "_law_roots" "_law_roots" (defArgs s__law_roots) (defBody s__law_roots) (defScope s__law_roots) .none kV8 dc8 pm8 an8 cd8 ct8), sl8⟩) (c8 : PySem.W.codeIn K cd8 "_law_roots" = true) (k8 : PySem.W.keepIn K (.ref f8) = true)
    {f9 : Addr} {od9 an9 : Option Addr} {sl9 : Array (Option Value)} {oc9 kV9 dc9 pm9 cd9 ct9 : Value} (a9 : PySem.W.nsIn K mainGlobals "_law_sign" = some (some (.ref f9))) (l9 : K.lookup f9 = some ⟨oc9, od9, .func (PySem.W.fnOf "_law_sign" "_law_sign" (defArgs s__law_sign) (defBody s__law_sign) (defScope s__law_sign) .none kV9 dc9 pm9 an9 cd9 ct9), sl9⟩) (c9 : PySem.W.codeIn K cd9 "_law_sign" = true) (k9 : PySem.W.keepIn K (.ref f9) = true)
    {f10 : Addr} {od10 an10 : Option Addr} {sl10 : Array (Option Value)} {oc10 kV10 dc10 pm10 cd10 ct10 : Value} (a10 : PySem.W.nsIn K mainGlobals "_law_at" = some (some (.ref f10))) (l10 : K.lookup f10 = some ⟨oc10, od10, .func (PySem.W.fnOf "_law_at" "_law_at" (defArgs s__law_at) (defBody s__law_at) (defScope s__law_at) .none kV10 dc10 pm10 an10 cd10 ct10), sl10⟩) (c10 : PySem.W.codeIn K cd10 "_law_at" = true) (k10 : PySem.W.keepIn K (.ref f10) = true)
    {f11 : Addr} {od11 an11 : Option Addr} {sl11 : Array (Option Value)} {oc11 kV11 dc11 pm11 cd11 ct11 : Value} (a11 : PySem.W.nsIn K mainGlobals "_law_span" = some (some (.ref f11))) (l11 : K.lookup f11 = some ⟨oc11, od11, .func (PySem.W.fnOf "_law_span" "_law_span" (defArgs s__law_span) (defBody s__law_span) (defScope s__law_span) .none kV11 dc11 pm11 an11 cd11 ct11), sl11⟩) (c11 : PySem.W.codeIn K cd11 "_law_span" = true) (k11 : PySem.W.keepIn K (.ref f11) = true)
    {f12 : Addr} {od12 an12 : Option Addr} {sl12 : Array (Option Value)} {oc12 kV12 dc12 pm12 cd12 ct12 : Value} (a12 : PySem.W.nsIn K mainGlobals "_law_order" = some (some (.ref f12))) (l12 : K.lookup f12 = some ⟨oc12, od12, .func (PySem.W.fnOf "_law_order" "_law_order" (defArgs s__law_order) (defBody s__law_order) (defScope s__law_order) .none kV12 dc12 pm12 an12 cd12 ct12), sl12⟩) (c12 : PySem.W.codeIn K cd12 "_law_order" = true) (k12 : PySem.W.keepIn K (.ref f12) = true)
    {f13 : Addr} {od13 an13 : Option Addr} {sl13 : Array (Option Value)} {oc13 kV13 dc13 pm13 cd13 ct13 : Value} (a13 : PySem.W.nsIn K mainGlobals "_law_in" = some (some (.ref f13))) (l13 : K.lookup f13 = some ⟨oc13, od13, .func (PySem.W.fnOf "_law_in" "_law_in" (defArgs s__law_in) (defBody s__law_in) (defScope s__law_in) .none kV13 dc13 pm13 an13 cd13 ct13), sl13⟩) (c13 : PySem.W.codeIn K cd13 "_law_in" = true) (k13 : PySem.W.keepIn K (.ref f13) = true)
    {f14 : Addr} {od14 an14 : Option Addr} {sl14 : Array (Option Value)} {oc14 kV14 dc14 pm14 cd14 ct14 : Value} (a14 : PySem.W.nsIn K mainGlobals "_law_places" = some (some (.ref f14))) (l14 : K.lookup f14 = some ⟨oc14, od14, .func (PySem.W.fnOf "_law_places" "_law_places" (defArgs s__law_places) (defBody s__law_places) (defScope s__law_places) .none kV14 dc14 pm14 an14 cd14 ct14), sl14⟩) (c14 : PySem.W.codeIn K cd14 "_law_places" = true) (k14 : PySem.W.keepIn K (.ref f14) = true)
    {f15 : Addr} {od15 an15 : Option Addr} {sl15 : Array (Option Value)} {oc15 kV15 dc15 pm15 cd15 ct15 : Value} (a15 : PySem.W.nsIn K mainGlobals "common" = some (some (.ref f15))) (l15 : K.lookup f15 = some ⟨oc15, od15, .func (PySem.W.fnOf "common" "common" (defArgs s_common) (defBody s_common) (defScope s_common) .none kV15 dc15 pm15 an15 cd15 ct15), sl15⟩) (c15 : PySem.W.codeIn K cd15 "common" = true) (k15 : PySem.W.keepIn K (.ref f15) = true)
    {f16 : Addr} {od16 an16 : Option Addr} {sl16 : Array (Option Value)} {oc16 kV16 dc16 pm16 cd16 ct16 : Value} (a16 : PySem.W.nsIn K mainGlobals "frac" = some (some (.ref f16))) (l16 : K.lookup f16 = some ⟨oc16, od16, .func (PySem.W.fnOf "frac" "frac" (defArgs s_frac) (defBody s_frac) (defScope s_frac) .none kV16 dc16 pm16 an16 cd16 ct16), sl16⟩) (c16 : PySem.W.codeIn K cd16 "frac" = true) (k16 : PySem.W.keepIn K (.ref f16) = true)
    {f17 : Addr} {od17 an17 : Option Addr} {sl17 : Array (Option Value)} {oc17 kV17 dc17 pm17 cd17 ct17 : Value} (a17 : PySem.W.nsIn K mainGlobals "root_of" = some (some (.ref f17))) (l17 : K.lookup f17 = some ⟨oc17, od17, .func (PySem.W.fnOf "root_of" "root_of" (defArgs s_root_of) (defBody s_root_of) (defScope s_root_of) .none kV17 dc17 pm17 an17 cd17 ct17), sl17⟩) (c17 : PySem.W.codeIn K cd17 "root_of" = true) (k17 : PySem.W.keepIn K (.ref f17) = true)
    {f18 : Addr} {od18 an18 : Option Addr} {sl18 : Array (Option Value)} {oc18 kV18 dc18 pm18 cd18 ct18 : Value} (a18 : PySem.W.nsIn K mainGlobals "ordered" = some (some (.ref f18))) (l18 : K.lookup f18 = some ⟨oc18, od18, .func (PySem.W.fnOf "ordered" "ordered" (defArgs s_ordered) (defBody s_ordered) (defScope s_ordered) .none kV18 dc18 pm18 an18 cd18 ct18), sl18⟩) (c18 : PySem.W.codeIn K cd18 "ordered" = true) (k18 : PySem.W.keepIn K (.ref f18) = true)
    {f19 : Addr} {od19 an19 : Option Addr} {sl19 : Array (Option Value)} {oc19 kV19 dc19 pm19 cd19 ct19 : Value} (a19 : PySem.W.nsIn K mainGlobals "roots" = some (some (.ref f19))) (l19 : K.lookup f19 = some ⟨oc19, od19, .func (PySem.W.fnOf "roots" "roots" (defArgs s_roots) (defBody s_roots) (defScope s_roots) .none kV19 dc19 pm19 an19 cd19 ct19), sl19⟩) (c19 : PySem.W.codeIn K cd19 "roots" = true) (k19 : PySem.W.keepIn K (.ref f19) = true)
    {f20 : Addr} {od20 an20 : Option Addr} {sl20 : Array (Option Value)} {oc20 kV20 dc20 pm20 cd20 ct20 : Value} (a20 : PySem.W.nsIn K mainGlobals "sign_of" = some (some (.ref f20))) (l20 : K.lookup f20 = some ⟨oc20, od20, .func (PySem.W.fnOf "sign_of" "sign_of" (defArgs s_sign_of) (defBody s_sign_of) (defScope s_sign_of) .none kV20 dc20 pm20 an20 cd20 ct20), sl20⟩) (c20 : PySem.W.codeIn K cd20 "sign_of" = true) (k20 : PySem.W.keepIn K (.ref f20) = true)
    {f21 : Addr} {od21 an21 : Option Addr} {sl21 : Array (Option Value)} {oc21 kV21 dc21 pm21 cd21 ct21 : Value} (a21 : PySem.W.nsIn K mainGlobals "compare" = some (some (.ref f21))) (l21 : K.lookup f21 = some ⟨oc21, od21, .func (PySem.W.fnOf "compare" "compare" (defArgs s_compare) (defBody s_compare) (defScope s_compare) .none kV21 dc21 pm21 an21 cd21 ct21), sl21⟩) (c21 : PySem.W.codeIn K cd21 "compare" = true) (k21 : PySem.W.keepIn K (.ref f21) = true)
    {f22 : Addr} {od22 an22 : Option Addr} {sl22 : Array (Option Value)} {oc22 kV22 dc22 pm22 cd22 ct22 : Value} (a22 : PySem.W.nsIn K mainGlobals "sign_at" = some (some (.ref f22))) (l22 : K.lookup f22 = some ⟨oc22, od22, .func (PySem.W.fnOf "sign_at" "sign_at" (defArgs s_sign_at) (defBody s_sign_at) (defScope s_sign_at) .none kV22 dc22 pm22 an22 cd22 ct22), sl22⟩) (c22 : PySem.W.codeIn K cd22 "sign_at" = true) (k22 : PySem.W.keepIn K (.ref f22) = true)
    {f23 : Addr} {od23 an23 : Option Addr} {sl23 : Array (Option Value)} {oc23 kV23 dc23 pm23 cd23 ct23 : Value} (a23 : PySem.W.nsIn K mainGlobals "root_side" = some (some (.ref f23))) (l23 : K.lookup f23 = some ⟨oc23, od23, .func (PySem.W.fnOf "root_side" "root_side" (defArgs s_root_side) (defBody s_root_side) (defScope s_root_side) .none kV23 dc23 pm23 an23 cd23 ct23), sl23⟩) (c23 : PySem.W.codeIn K cd23 "root_side" = true) (k23 : PySem.W.keepIn K (.ref f23) = true)
    {f24 : Addr} {od24 an24 : Option Addr} {sl24 : Array (Option Value)} {oc24 kV24 dc24 pm24 cd24 ct24 : Value} (a24 : PySem.W.nsIn K mainGlobals "mul" = some (some (.ref f24))) (l24 : K.lookup f24 = some ⟨oc24, od24, .func (PySem.W.fnOf "mul" "mul" (defArgs s_mul) (defBody s_mul) (defScope s_mul) .none kV24 dc24 pm24 an24 cd24 ct24), sl24⟩) (c24 : PySem.W.codeIn K cd24 "mul" = true) (k24 : PySem.W.keepIn K (.ref f24) = true)
    {f25 : Addr} {od25 an25 : Option Addr} {sl25 : Array (Option Value)} {oc25 kV25 dc25 pm25 cd25 ct25 : Value} (a25 : PySem.W.nsIn K mainGlobals "sub" = some (some (.ref f25))) (l25 : K.lookup f25 = some ⟨oc25, od25, .func (PySem.W.fnOf "sub" "sub" (defArgs s_sub) (defBody s_sub) (defScope s_sub) .none kV25 dc25 pm25 an25 cd25 ct25), sl25⟩) (c25 : PySem.W.codeIn K cd25 "sub" = true) (k25 : PySem.W.keepIn K (.ref f25) = true)
    {f26 : Addr} {od26 an26 : Option Addr} {sl26 : Array (Option Value)} {oc26 kV26 dc26 pm26 cd26 ct26 : Value} (a26 : PySem.W.nsIn K mainGlobals "rest" = some (some (.ref f26))) (l26 : K.lookup f26 = some ⟨oc26, od26, .func (PySem.W.fnOf "rest" "rest" (defArgs s_rest) (defBody s_rest) (defScope s_rest) .none kV26 dc26 pm26 an26 cd26 ct26), sl26⟩) (c26 : PySem.W.codeIn K cd26 "rest" = true) (k26 : PySem.W.keepIn K (.ref f26) = true)
    {f27 : Addr} {od27 an27 : Option Addr} {sl27 : Array (Option Value)} {oc27 kV27 dc27 pm27 cd27 ct27 : Value} (a27 : PySem.W.nsIn K mainGlobals "div" = some (some (.ref f27))) (l27 : K.lookup f27 = some ⟨oc27, od27, .func (PySem.W.fnOf "div" "div" (defArgs s_div) (defBody s_div) (defScope s_div) .none kV27 dc27 pm27 an27 cd27 ct27), sl27⟩) (c27 : PySem.W.codeIn K cd27 "div" = true) (k27 : PySem.W.keepIn K (.ref f27) = true)
    {f28 : Addr} {od28 an28 : Option Addr} {sl28 : Array (Option Value)} {oc28 kV28 dc28 pm28 cd28 ct28 : Value} (a28 : PySem.W.nsIn K mainGlobals "sign_on" = some (some (.ref f28))) (l28 : K.lookup f28 = some ⟨oc28, od28, .func (PySem.W.fnOf "sign_on" "sign_on" (defArgs s_sign_on) (defBody s_sign_on) (defScope s_sign_on) .none kV28 dc28 pm28 an28 cd28 ct28), sl28⟩) (c28 : PySem.W.codeIn K cd28 "sign_on" = true) (k28 : PySem.W.keepIn K (.ref f28) = true)
    {f29 : Addr} {od29 an29 : Option Addr} {sl29 : Array (Option Value)} {oc29 kV29 dc29 pm29 cd29 ct29 : Value} (a29 : PySem.W.nsIn K mainGlobals "order_of" = some (some (.ref f29))) (l29 : K.lookup f29 = some ⟨oc29, od29, .func (PySem.W.fnOf "order_of" "order_of" (defArgs s_order_of) (defBody s_order_of) (defScope s_order_of) .none kV29 dc29 pm29 an29 cd29 ct29), sl29⟩) (c29 : PySem.W.codeIn K cd29 "order_of" = true) (k29 : PySem.W.keepIn K (.ref f29) = true)
    {f30 : Addr} {od30 an30 : Option Addr} {sl30 : Array (Option Value)} {oc30 kV30 dc30 pm30 cd30 ct30 : Value} (a30 : PySem.W.nsIn K mainGlobals "put_in" = some (some (.ref f30))) (l30 : K.lookup f30 = some ⟨oc30, od30, .func (PySem.W.fnOf "put_in" "put_in" (defArgs s_put_in) (defBody s_put_in) (defScope s_put_in) .none kV30 dc30 pm30 an30 cd30 ct30), sl30⟩) (c30 : PySem.W.codeIn K cd30 "put_in" = true) (k30 : PySem.W.keepIn K (.ref f30) = true)
    {f31 : Addr} {od31 an31 : Option Addr} {sl31 : Array (Option Value)} {oc31 kV31 dc31 pm31 cd31 ct31 : Value} (a31 : PySem.W.nsIn K mainGlobals "places_of" = some (some (.ref f31))) (l31 : K.lookup f31 = some ⟨oc31, od31, .func (PySem.W.fnOf "places_of" "places_of" (defArgs s_places_of) (defBody s_places_of) (defScope s_places_of) .none kV31 dc31 pm31 an31 cd31 ct31), sl31⟩) (c31 : PySem.W.codeIn K cd31 "places_of" = true) (k31 : PySem.W.keepIn K (.ref f31) = true)
    {f32 : Addr} {od32 an32 : Option Addr} {sl32 : Array (Option Value)} {oc32 kV32 dc32 pm32 cd32 ct32 : Value} (a32 : PySem.W.nsIn K mainGlobals "cells_of" = some (some (.ref f32))) (l32 : K.lookup f32 = some ⟨oc32, od32, .func (PySem.W.fnOf "cells_of" "cells_of" (defArgs s_cells_of) (defBody s_cells_of) (defScope s_cells_of) .none kV32 dc32 pm32 an32 cd32 ct32), sl32⟩) (c32 : PySem.W.codeIn K cd32 "cells_of" = true) (k32 : PySem.W.keepIn K (.ref f32) = true)
    {f33 : Addr} {od33 an33 : Option Addr} {sl33 : Array (Option Value)} {oc33 kV33 dc33 pm33 cd33 ct33 : Value} (a33 : PySem.W.nsIn K mainGlobals "middle" = some (some (.ref f33))) (l33 : K.lookup f33 = some ⟨oc33, od33, .func (PySem.W.fnOf "middle" "middle" (defArgs s_middle) (defBody s_middle) (defScope s_middle) .none kV33 dc33 pm33 an33 cd33 ct33), sl33⟩) (c33 : PySem.W.codeIn K cd33 "middle" = true) (k33 : PySem.W.keepIn K (.ref f33) = true)
    {f34 : Addr} {od34 an34 : Option Addr} {sl34 : Array (Option Value)} {oc34 kV34 dc34 pm34 cd34 ct34 : Value} (a34 : PySem.W.nsIn K mainGlobals "between" = some (some (.ref f34))) (l34 : K.lookup f34 = some ⟨oc34, od34, .func (PySem.W.fnOf "between" "between" (defArgs s_between) (defBody s_between) (defScope s_between) .none kV34 dc34 pm34 an34 cd34 ct34), sl34⟩) (c34 : PySem.W.codeIn K cd34 "between" = true) (k34 : PySem.W.keepIn K (.ref f34) = true)
    {f35 : Addr} {od35 an35 : Option Addr} {sl35 : Array (Option Value)} {oc35 kV35 dc35 pm35 cd35 ct35 : Value} (a35 : PySem.W.nsIn K mainGlobals "sample" = some (some (.ref f35))) (l35 : K.lookup f35 = some ⟨oc35, od35, .func (PySem.W.fnOf "sample" "sample" (defArgs s_sample) (defBody s_sample) (defScope s_sample) .none kV35 dc35 pm35 an35 cd35 ct35), sl35⟩) (c35 : PySem.W.codeIn K cd35 "sample" = true) (k35 : PySem.W.keepIn K (.ref f35) = true)
    {f36 : Addr} {od36 an36 : Option Addr} {sl36 : Array (Option Value)} {oc36 kV36 dc36 pm36 cd36 ct36 : Value} (a36 : PySem.W.nsIn K mainGlobals "is_frac" = some (some (.ref f36))) (l36 : K.lookup f36 = some ⟨oc36, od36, .func (PySem.W.fnOf "is_frac" "is_frac" (defArgs s_is_frac) (defBody s_is_frac) (defScope s_is_frac) .none kV36 dc36 pm36 an36 cd36 ct36), sl36⟩) (c36 : PySem.W.codeIn K cd36 "is_frac" = true) (k36 : PySem.W.keepIn K (.ref f36) = true)
    {f37 : Addr} {od37 an37 : Option Addr} {sl37 : Array (Option Value)} {oc37 kV37 dc37 pm37 cd37 ct37 : Value} (a37 : PySem.W.nsIn K mainGlobals "whole" = some (some (.ref f37))) (l37 : K.lookup f37 = some ⟨oc37, od37, .func (PySem.W.fnOf "whole" "whole" (defArgs s_whole) (defBody s_whole) (defScope s_whole) .none kV37 dc37 pm37 an37 cd37 ct37), sl37⟩) (c37 : PySem.W.codeIn K cd37 "whole" = true) (k37 : PySem.W.keepIn K (.ref f37) = true)
    {f38 : Addr} {od38 an38 : Option Addr} {sl38 : Array (Option Value)} {oc38 kV38 dc38 pm38 cd38 ct38 : Value} (a38 : PySem.W.nsIn K mainGlobals "is_place" = some (some (.ref f38))) (l38 : K.lookup f38 = some ⟨oc38, od38, .func (PySem.W.fnOf "is_place" "is_place" (defArgs s_is_place) (defBody s_is_place) (defScope s_is_place) .none kV38 dc38 pm38 an38 cd38 ct38), sl38⟩) (c38 : PySem.W.codeIn K cd38 "is_place" = true) (k38 : PySem.W.keepIn K (.ref f38) = true)
    {f39 : Addr} {od39 an39 : Option Addr} {sl39 : Array (Option Value)} {oc39 kV39 dc39 pm39 cd39 ct39 : Value} (a39 : PySem.W.nsIn K mainGlobals "is_still" = some (some (.ref f39))) (l39 : K.lookup f39 = some ⟨oc39, od39, .func (PySem.W.fnOf "is_still" "is_still" (defArgs s_is_still) (defBody s_is_still) (defScope s_is_still) .none kV39 dc39 pm39 an39 cd39 ct39), sl39⟩) (c39 : PySem.W.codeIn K cd39 "is_still" = true) (k39 : PySem.W.keepIn K (.ref f39) = true)
    {f40 : Addr} {od40 an40 : Option Addr} {sl40 : Array (Option Value)} {oc40 kV40 dc40 pm40 cd40 ct40 : Value} (a40 : PySem.W.nsIn K mainGlobals "law" = some (some (.ref f40))) (l40 : K.lookup f40 = some ⟨oc40, od40, .func (PySem.W.fnOf "law" "law" (defArgs s_law) (defBody s_law) (defScope s_law) .none kV40 dc40 pm40 an40 cd40 ct40), sl40⟩) (c40 : PySem.W.codeIn K cd40 "law" = true) (k40 : PySem.W.keepIn K (.ref f40) = true)
    (z_abs : PySem.W.nsIn K mainGlobals "abs" = some none)
    (z_all : PySem.W.nsIn K mainGlobals "all" = some none)
    (z_bool : PySem.W.nsIn K mainGlobals "bool" = some none)
    (z_int : PySem.W.nsIn K mainGlobals "int" = some none)
    (z_isinstance : PySem.W.nsIn K mainGlobals "isinstance" = some none)
    (z_len : PySem.W.nsIn K mainGlobals "len" = some none)
    (z_list : PySem.W.nsIn K mainGlobals "list" = some none)
    (z_max : PySem.W.nsIn K mainGlobals "max" = some none)
    (z_range : PySem.W.nsIn K mainGlobals "range" = some none)
    (z_tuple : PySem.W.nsIn K mainGlobals "tuple" = some none)
    {uEND_0t}
    {uEND_1t}
    {uENDa : Addr}
    {uENDod : Option Addr}
    {uENDn : Nat}
    {uENDsl : Array (Option Value)}
    (g_END : PySem.W.nsIn K mainGlobals "END" = some (some (.ref uENDa)))
    (luEND : K.lookup uENDa = some ⟨.type "tuple", uENDod, .seq [(.int 1 uEND_0t), (.int 1 uEND_1t)].toArray uENDn, uENDsl⟩)
    {uSTART_0t}
    {uSTART_1t}
    {uSTARTa : Addr}
    {uSTARTod : Option Addr}
    {uSTARTn : Nat}
    {uSTARTsl : Array (Option Value)}
    (g_START : PySem.W.nsIn K mainGlobals "START" = some (some (.ref uSTARTa)))
    (luSTART : K.lookup uSTARTa = some ⟨.type "tuple", uSTARTod, .seq [(.int 0 uSTART_0t), (.int 1 uSTART_1t)].toArray uSTARTn, uSTARTsl⟩) :
    ∃ fd : FuncData, (∀ (s : Shared) (v : Value), BindsTo s fd ⟨[v], []⟩ [("_law_script", v)]) ∧ ∀ base : Heap, K.In base → base.Ns mainGlobals mg → FnOk l.prog w K mg base CX0 10 fa fd ["_law_script"] (spF K g_law) := by
  have e := hfa.symm.trans (PySem.W.mg_of X G a40)
  cases e
  have t_END : Top K mg "END" (.tuple [(.int 1), (.int 1)]) := ⟨_, PySem.W.mg_of X G g_END, (wr_tup luEND (wr_cons wr_int (wr_cons wr_int wr_nil)))⟩
  have t_START : Top K mg "START" (.tuple [(.int 0), (.int 1)]) := ⟨_, PySem.W.mg_of X G g_START, (wr_tup luSTART (wr_cons wr_int (wr_cons wr_int wr_nil)))⟩
  have D0 := fun_mk (st := s__law_cell_at) l0 c0 k0
  have m0 := PySem.W.mg_of X G a0
  have b0 := D0.binds (ps := ["_law_script", "_law_k"]) fun _ _ _ _ _ _ us hl => match us, hl with | [_, _], _ => rfl
  have D1 := fun_mk (st := s__law_draw) l1 c1 k1
  have m1 := PySem.W.mg_of X G a1
  have b1 := D1.binds (ps := ["_law_cell", "_law_k", "_law_bound"]) fun _ _ _ _ _ _ us hl => match us, hl with | [_, _, _], _ => rfl
  have D2 := fun_mk (st := s__law_number) l2 c2 k2
  have m2 := PySem.W.mg_of X G a2
  have b2 := D2.binds (ps := ["_law_cell", "_law_k", "_law_bound"]) fun _ _ _ _ _ _ us hl => match us, hl with | [_, _, _], _ => rfl
  have D3 := fun_mk (st := s__law_next) l3 c3 k3
  have m3 := PySem.W.mg_of X G a3
  have b3 := D3.binds (ps := ["_law_draw_here", "_law_bound"]) fun _ _ _ _ _ _ us hl => match us, hl with | [_, _], _ => rfl
  have D4 := fun_mk (st := s__law_common) l4 c4 k4
  have m4 := PySem.W.mg_of X G a4
  have b4 := D4.binds (ps := ["_law_a", "_law_b"]) fun _ _ _ _ _ _ us hl => match us, hl with | [_, _], _ => rfl
  have D5 := fun_mk (st := s__law_poly) l5 c5 k5
  have m5 := PySem.W.mg_of X G a5
  have b5 := D5.binds (ps := ["_law_draw_here", "_law_big"]) fun _ _ _ _ _ _ us hl => match us, hl with | [_, _], _ => rfl
  have D6 := fun_mk (st := s__law_frac) l6 c6 k6
  have m6 := PySem.W.mg_of X G a6
  have b6 := D6.binds (ps := ["_law_n", "_law_d"]) fun _ _ _ _ _ _ us hl => match us, hl with | [_, _], _ => rfl
  have D7 := fun_mk (st := s__law_root_of) l7 c7 k7
  have m7 := PySem.W.mg_of X G a7
  have b7 := D7.binds (ps := ["_law_number_here"]) fun _ _ _ _ _ _ us hl => match us, hl with | [_], _ => rfl
  have D8 := fun_mk (st := s__law_roots) l8 c8 k8
  have m8 := PySem.W.mg_of X G a8
  have b8 := D8.binds (ps := ["_law_poly_here"]) fun _ _ _ _ _ _ us hl => match us, hl with | [_], _ => rfl
  have D9 := fun_mk (st := s__law_sign) l9 c9 k9
  have m9 := PySem.W.mg_of X G a9
  have b9 := D9.binds (ps := ["_law_number_here"]) fun _ _ _ _ _ _ us hl => match us, hl with | [_], _ => rfl
  have D10 := fun_mk (st := s__law_at) l10 c10 k10
  have m10 := PySem.W.mg_of X G a10
  have b10 := D10.binds (ps := ["_law_poly_here", "_law_n", "_law_d"]) fun _ _ _ _ _ _ us hl => match us, hl with | [_, _, _], _ => rfl
  have D11 := fun_mk (st := s__law_span) l11 c11 k11
  have m11 := PySem.W.mg_of X G a11
  have b11 := D11.binds (ps := ["_law_place"]) fun _ _ _ _ _ _ us hl => match us, hl with | [_], _ => rfl
  have D12 := fun_mk (st := s__law_order) l12 c12 k12
  have m12 := PySem.W.mg_of X G a12
  have b12 := D12.binds (ps := ["_law_one", "_law_other"]) fun _ _ _ _ _ _ us hl => match us, hl with | [_, _], _ => rfl
  have D13 := fun_mk (st := s__law_in) l13 c13 k13
  have m13 := PySem.W.mg_of X G a13
  have b13 := D13.binds (ps := ["_law_place"]) fun _ _ _ _ _ _ us hl => match us, hl with | [_], _ => rfl
  have D14 := fun_mk (st := s__law_places) l14 c14 k14
  have m14 := PySem.W.mg_of X G a14
  have b14 := D14.binds (ps := ["_law_polys"]) fun _ _ _ _ _ _ us hl => match us, hl with | [_], _ => rfl
  have D15 := fun_mk (st := s_common) l15 c15 k15
  have m15 := PySem.W.mg_of X G a15
  have b15 := D15.binds (ps := ["a", "b"]) fun _ _ _ _ _ _ us hl => match us, hl with | [_, _], _ => rfl
  have D16 := fun_mk (st := s_frac) l16 c16 k16
  have m16 := PySem.W.mg_of X G a16
  have b16 := D16.binds (ps := ["n", "d"]) fun _ _ _ _ _ _ us hl => match us, hl with | [_, _], _ => rfl
  have D17 := fun_mk (st := s_root_of) l17 c17 k17
  have m17 := PySem.W.mg_of X G a17
  have b17 := D17.binds (ps := ["number"]) fun _ _ _ _ _ _ us hl => match us, hl with | [_], _ => rfl
  have D18 := fun_mk (st := s_ordered) l18 c18 k18
  have m18 := PySem.W.mg_of X G a18
  have b18 := D18.binds (ps := ["found"]) fun _ _ _ _ _ _ us hl => match us, hl with | [_], _ => rfl
  have D19 := fun_mk (st := s_roots) l19 c19 k19
  have m19 := PySem.W.mg_of X G a19
  have b19 := D19.binds (ps := ["poly"]) fun _ _ _ _ _ _ us hl => match us, hl with | [_], _ => rfl
  have D20 := fun_mk (st := s_sign_of) l20 c20 k20
  have m20 := PySem.W.mg_of X G a20
  have b20 := D20.binds (ps := ["number"]) fun _ _ _ _ _ _ us hl => match us, hl with | [_], _ => rfl
  have D21 := fun_mk (st := s_compare) l21 c21 k21
  have m21 := PySem.W.mg_of X G a21
  have b21 := D21.binds (ps := ["a", "b"]) fun _ _ _ _ _ _ us hl => match us, hl with | [_, _], _ => rfl
  have D22 := fun_mk (st := s_sign_at) l22 c22 k22
  have m22 := PySem.W.mg_of X G a22
  have b22 := D22.binds (ps := ["poly", "place"]) fun _ _ _ _ _ _ us hl => match us, hl with | [_, _], _ => rfl
  have D23 := fun_mk (st := s_root_side) l23 c23 k23
  have m23 := PySem.W.mg_of X G a23
  have b23 := D23.binds (ps := ["root", "place"]) fun _ _ _ _ _ _ us hl => match us, hl with | [_, _], _ => rfl
  have D24 := fun_mk (st := s_mul) l24 c24 k24
  have m24 := PySem.W.mg_of X G a24
  have b24 := D24.binds (ps := ["a", "b"]) fun _ _ _ _ _ _ us hl => match us, hl with | [_, _], _ => rfl
  have D25 := fun_mk (st := s_sub) l25 c25 k25
  have m25 := PySem.W.mg_of X G a25
  have b25 := D25.binds (ps := ["a", "b"]) fun _ _ _ _ _ _ us hl => match us, hl with | [_, _], _ => rfl
  have D26 := fun_mk (st := s_rest) l26 c26 k26
  have m26 := PySem.W.mg_of X G a26
  have b26 := D26.binds (ps := ["poly", "own"]) fun _ _ _ _ _ _ us hl => match us, hl with | [_, _], _ => rfl
  have D27 := fun_mk (st := s_div) l27 c27 k27
  have m27 := PySem.W.mg_of X G a27
  have b27 := D27.binds (ps := ["a", "b"]) fun _ _ _ _ _ _ us hl => match us, hl with | [_, _], _ => rfl
  have D28 := fun_mk (st := s_sign_on) l28 c28 k28
  have m28 := PySem.W.mg_of X G a28
  have b28 := D28.binds (ps := ["poly", "place"]) fun _ _ _ _ _ _ us hl => match us, hl with | [_, _], _ => rfl
  have D29 := fun_mk (st := s_order_of) l29 c29 k29
  have m29 := PySem.W.mg_of X G a29
  have b29 := D29.binds (ps := ["one", "other"]) fun _ _ _ _ _ _ us hl => match us, hl with | [_, _], _ => rfl
  have D30 := fun_mk (st := s_put_in) l30 c30 k30
  have m30 := PySem.W.mg_of X G a30
  have b30 := D30.binds (ps := ["places", "place"]) fun _ _ _ _ _ _ us hl => match us, hl with | [_, _], _ => rfl
  have D31 := fun_mk (st := s_places_of) l31 c31 k31
  have m31 := PySem.W.mg_of X G a31
  have b31 := D31.binds (ps := ["polys"]) fun _ _ _ _ _ _ us hl => match us, hl with | [_], _ => rfl
  have D32 := fun_mk (st := s_cells_of) l32 c32 k32
  have m32 := PySem.W.mg_of X G a32
  have b32 := D32.binds (ps := ["polys"]) fun _ _ _ _ _ _ us hl => match us, hl with | [_], _ => rfl
  have D33 := fun_mk (st := s_middle) l33 c33 k33
  have m33 := PySem.W.mg_of X G a33
  have b33 := D33.binds (ps := ["a", "b"]) fun _ _ _ _ _ _ us hl => match us, hl with | [_, _], _ => rfl
  have D34 := fun_mk (st := s_between) l34 c34 k34
  have m34 := PySem.W.mg_of X G a34
  have b34 := D34.binds (ps := ["one", "other"]) fun _ _ _ _ _ _ us hl => match us, hl with | [_, _], _ => rfl
  have D35 := fun_mk (st := s_sample) l35 c35 k35
  have m35 := PySem.W.mg_of X G a35
  have b35 := D35.binds (ps := ["cell"]) fun _ _ _ _ _ _ us hl => match us, hl with | [_], _ => rfl
  have D36 := fun_mk (st := s_is_frac) l36 c36 k36
  have m36 := PySem.W.mg_of X G a36
  have b36 := D36.binds (ps := ["thing"]) fun _ _ _ _ _ _ us hl => match us, hl with | [_], _ => rfl
  have D37 := fun_mk (st := s_whole) l37 c37 k37
  have m37 := PySem.W.mg_of X G a37
  have b37 := D37.binds (ps := ["poly"]) fun _ _ _ _ _ _ us hl => match us, hl with | [_], _ => rfl
  have D38 := fun_mk (st := s_is_place) l38 c38 k38
  have m38 := PySem.W.mg_of X G a38
  have b38 := D38.binds (ps := ["thing"]) fun _ _ _ _ _ _ us hl => match us, hl with | [_], _ => rfl
  have D39 := fun_mk (st := s_is_still) l39 c39 k39
  have m39 := PySem.W.mg_of X G a39
  have b39 := D39.binds (ps := ["poly", "cell"]) fun _ _ _ _ _ _ us hl => match us, hl with | [_, _], _ => rfl
  have D40 := fun_mk (st := s_law) l40 c40 k40
  have m40 := PySem.W.mg_of X G a40
  have mm_abs : mg "abs" = none := PySem.W.mg_none_of X G z_abs
  have mm_all : mg "all" = none := PySem.W.mg_none_of X G z_all
  have mm_bool : mg "bool" = none := PySem.W.mg_none_of X G z_bool
  have mm_int : mg "int" = none := PySem.W.mg_none_of X G z_int
  have mm_isinstance : mg "isinstance" = none := PySem.W.mg_none_of X G z_isinstance
  have mm_len : mg "len" = none := PySem.W.mg_none_of X G z_len
  have mm_list : mg "list" = none := PySem.W.mg_none_of X G z_list
  have mm_max : mg "max" = none := PySem.W.mg_none_of X G z_max
  have mm_range : mg "range" = none := PySem.W.mg_none_of X G z_range
  have mm_tuple : mg "tuple" = none := PySem.W.mg_none_of X G z_tuple
  refine ⟨PySem.W.fnOf "law" "law" (defArgs s_law) (defBody s_law) (defScope s_law) .none kV40 dc40 pm40 an40 cd40 ct40, fun s v => .of_eq rfl, fun base _ _ => ?_⟩
  have G0 := ok__law_cell_at (P := l.prog) (w := w) (base := base) (mg := mg) D0 mm_len
  have G1 := ok__law_draw (P := l.prog) (w := w) (base := base) (mg := mg) D1 mm_int
  have G2 := ok__law_number (P := l.prog) (w := w) (base := base) (mg := mg) D2 G1 m1 k1 b1 mm_int mm_range
  have G3 := ok__law_next (P := l.prog) (w := w) (base := base) (mg := mg) D3 G0 m0 k0 b0 G2 m2 k2 b2 mm_int
  have G4 := ok__law_common (P := l.prog) (w := w) (base := base) (mg := mg) D4 mm_abs mm_range
  have G5 := ok__law_poly (P := l.prog) (w := w) (base := base) (mg := mg) D5 G3 m3 k3 b3 G4 m4 k4 b4 mm_max mm_range mm_tuple
  have G6 := ok__law_frac (P := l.prog) (w := w) (base := base) (mg := mg) D6 G4 m4 k4 b4
  have G7 := ok__law_root_of (P := l.prog) (w := w) (base := base) (mg := mg) D7 mm_range
  have G8 := ok__law_roots (P := l.prog) (w := w) (base := base) (mg := mg) D8 G6 m6 k6 b6 G7 m7 k7 b7
  have G9 := ok__law_sign (P := l.prog) (w := w) (base := base) (mg := mg) D9 
  have G10 := ok__law_at (P := l.prog) (w := w) (base := base) (mg := mg) D10 G9 m9 k9 b9
  have G11 := ok__law_span (P := l.prog) (w := w) (base := base) (mg := mg) D11 G10 m10 k10 b10 mm_abs mm_range
  have G12 := ok__law_order (P := l.prog) (w := w) (base := base) (mg := mg) D12 G9 m9 k9 b9 G11 m11 k11 b11
  have G13 := ok__law_in (P := l.prog) (w := w) (base := base) (mg := mg) D13 G12 m12 k12 b12
  have G14 := ok__law_places (P := l.prog) (w := w) (base := base) (mg := mg) D14 G8 m8 k8 b8 G13 m13 k13 b13 G12 m12 k12 b12 mm_len
  have G15 := ok_common (P := l.prog) (w := w) (base := base) (mg := mg) D15 mm_abs
  have G16 := ok_frac (P := l.prog) (w := w) (base := base) (mg := mg) D16 G15 m15 k15 b15
  have G17 := ok_root_of (P := l.prog) (w := w) (base := base) (mg := mg) D17 
  have G18 := ok_ordered (P := l.prog) (w := w) (base := base) (mg := mg) D18 mm_len
  have G19 := ok_roots (P := l.prog) (w := w) (base := base) (mg := mg) D19 G16 m16 k16 b16 G17 m17 k17 b17 G18 m18 k18 b18
  have G20 := ok_sign_of (P := l.prog) (w := w) (base := base) (mg := mg) D20 
  have G21 := ok_compare (P := l.prog) (w := w) (base := base) (mg := mg) D21 G20 m20 k20 b20
  have G22 := ok_sign_at (P := l.prog) (w := w) (base := base) (mg := mg) D22 G20 m20 k20 b20
  have G23 := ok_root_side (P := l.prog) (w := w) (base := base) (mg := mg) D23 G22 m22 k22 b22 G20 m20 k20 b20
  have G24 := ok_mul (P := l.prog) (w := w) (base := base) (mg := mg) D24 G16 m16 k16 b16
  have G25 := ok_sub (P := l.prog) (w := w) (base := base) (mg := mg) D25 G16 m16 k16 b16
  have G26 := ok_rest (P := l.prog) (w := w) (base := base) (mg := mg) D26 G16 m16 k16 b16 G24 m24 k24 b24 G25 m25 k25 b25
  have G27 := ok_div (P := l.prog) (w := w) (base := base) (mg := mg) D27 G16 m16 k16 b16
  have G28 := ok_sign_on (P := l.prog) (w := w) (base := base) (mg := mg) D28 G22 m22 k22 b22 G26 m26 k26 b26 G20 m20 k20 b20 G16 m16 k16 b16 G27 m27 k27 b27 G23 m23 k23 b23
  have G29 := ok_order_of (P := l.prog) (w := w) (base := base) (mg := mg) D29 G21 m21 k21 b21 G23 m23 k23 b23 G20 m20 k20 b20 G28 m28 k28 b28
  have G30 := ok_put_in (P := l.prog) (w := w) (base := base) (mg := mg) D30 G29 m29 k29 b29 mm_len mm_list
  have G31 := ok_places_of (P := l.prog) (w := w) (base := base) (mg := mg) D31 G19 m19 k19 b19 G29 m29 k29 b29 G30 m30 k30 b30 t_END t_START
  have G32 := ok_cells_of (P := l.prog) (w := w) (base := base) (mg := mg) D32 G31 m31 k31 b31 t_END t_START
  have G33 := ok_middle (P := l.prog) (w := w) (base := base) (mg := mg) D33 G16 m16 k16 b16
  have G34 := ok_between (P := l.prog) (w := w) (base := base) (mg := mg) D34 G33 m33 k33 b33 G29 m29 k29 b29 t_END t_START
  have G35 := ok_sample (P := l.prog) (w := w) (base := base) (mg := mg) D35 G34 m34 k34 b34
  have G36 := ok_is_frac (P := l.prog) (w := w) (base := base) (mg := mg) D36 G15 m15 k15 b15 mm_all mm_bool mm_int mm_isinstance mm_len mm_tuple
  have G37 := ok_whole (P := l.prog) (w := w) (base := base) (mg := mg) D37 G15 m15 k15 b15 mm_max mm_tuple
  have G38 := ok_is_place (P := l.prog) (w := w) (base := base) (mg := mg) D38 G36 m36 k36 b36 G21 m21 k21 b21 G37 m37 k37 b37 G19 m19 k19 b19 G29 m29 k29 b29 mm_all mm_bool mm_int mm_isinstance mm_len mm_tuple t_END t_START
  have G39 := ok_is_still (P := l.prog) (w := w) (base := base) (mg := mg) D39 G19 m19 k19 b19 G29 m29 k29 b29
  exact ok_law D40 G3 m3 k3 b3 G5 m5 k5 b5 G14 m14 k14 b14 G32 m32 k32 b32 G35 m35 k35 b35 G38 m38 k38 b38 G13 m13 k13 b13 G12 m12 k12 b12 G8 m8 k8 b8 G39 m39 k39 b39 mm_list mm_range
end LW

open PySem PySem.W PyProof.Rows
set_option maxHeartbeats 0 in
theorem PySem.Challenge.cw_justthepart_k04_whole_cells_holds : PySem.Challenge.rw_justthepart_k04_whole_cells.Holds := by
  w_on; o_law; k_head; (case hw => w_witness2)
  k_fill
  refine L2.walk_of (l := PySem.Challenge.rw_justthepart_k04_whole_cells) (n := 63) (k := 10) (x := "_law_script") (CX := fun _ => L2.CX0) (sp := fun w => DL.spF _ LW.g_law) rfl (by decide) rfl ⟨rfl, by decide, by decide⟩ (fun w h Y => PySem.W.kIn_of Y) ?F (fun _ _ a ns hl _ hS => DL.law_end hS (LW.law_true ns hl)) (fun _ _ _ _ _ h => h)
  case F =>
    intro w mg fa h KX G hmg
    refine' LW.all_mk KX G hmg ?a0 ?l0 ?c0 ?k0 ?a1 ?l1 ?c1 ?k1 ?a2 ?l2 ?c2 ?k2 ?a3 ?l3 ?c3 ?k3 ?a4 ?l4 ?c4 ?k4 ?a5 ?l5 ?c5 ?k5 ?a6 ?l6 ?c6 ?k6 ?a7 ?l7 ?c7 ?k7 ?a8 ?l8 ?c8 ?k8 ?a9 ?l9 ?c9 ?k9 ?a10 ?l10 ?c10 ?k10 ?a11 ?l11 ?c11 ?k11 ?a12 ?l12 ?c12 ?k12 ?a13 ?l13 ?c13 ?k13 ?a14 ?l14 ?c14 ?k14 ?a15 ?l15 ?c15 ?k15 ?a16 ?l16 ?c16 ?k16 ?a17 ?l17 ?c17 ?k17 ?a18 ?l18 ?c18 ?k18 ?a19 ?l19 ?c19 ?k19 ?a20 ?l20 ?c20 ?k20 ?a21 ?l21 ?c21 ?k21 ?a22 ?l22 ?c22 ?k22 ?a23 ?l23 ?c23 ?k23 ?a24 ?l24 ?c24 ?k24 ?a25 ?l25 ?c25 ?k25 ?a26 ?l26 ?c26 ?k26 ?a27 ?l27 ?c27 ?k27 ?a28 ?l28 ?c28 ?k28 ?a29 ?l29 ?c29 ?k29 ?a30 ?l30 ?c30 ?k30 ?a31 ?l31 ?c31 ?k31 ?a32 ?l32 ?c32 ?k32 ?a33 ?l33 ?c33 ?k33 ?a34 ?l34 ?c34 ?k34 ?a35 ?l35 ?c35 ?k35 ?a36 ?l36 ?c36 ?k36 ?a37 ?l37 ?c37 ?k37 ?a38 ?l38 ?c38 ?k38 ?a39 ?l39 ?c39 ?k39 ?a40 ?l40 ?c40 ?k40 ?z_abs ?z_all ?z_bool ?z_int ?z_isinstance ?z_len ?z_list ?z_max ?z_range ?z_tuple ?g_END ?luEND ?g_START ?luSTART
    (case a0 => k_is); (case l0 => k_is); (case c0 => k_is); (case k0 => k_is); (case a1 => k_is); (case l1 => k_is); (case c1 => k_is); (case k1 => k_is); (case a2 => k_is); (case l2 => k_is); (case c2 => k_is); (case k2 => k_is); (case a3 => k_is); (case l3 => k_is); (case c3 => k_is); (case k3 => k_is); (case a4 => k_is); (case l4 => k_is); (case c4 => k_is); (case k4 => k_is); (case a5 => k_is); (case l5 => k_is); (case c5 => k_is); (case k5 => k_is); (case a6 => k_is); (case l6 => k_is); (case c6 => k_is); (case k6 => k_is); (case a7 => k_is); (case l7 => k_is); (case c7 => k_is); (case k7 => k_is); (case a8 => k_is); (case l8 => k_is); (case c8 => k_is); (case k8 => k_is); (case a9 => k_is); (case l9 => k_is); (case c9 => k_is); (case k9 => k_is); (case a10 => k_is); (case l10 => k_is); (case c10 => k_is); (case k10 => k_is); (case a11 => k_is); (case l11 => k_is); (case c11 => k_is); (case k11 => k_is); (case a12 => k_is); (case l12 => k_is); (case c12 => k_is); (case k12 => k_is); (case a13 => k_is); (case l13 => k_is); (case c13 => k_is); (case k13 => k_is); (case a14 => k_is); (case l14 => k_is); (case c14 => k_is); (case k14 => k_is); (case a15 => k_is); (case l15 => k_is); (case c15 => k_is); (case k15 => k_is); (case a16 => k_is); (case l16 => k_is); (case c16 => k_is); (case k16 => k_is); (case a17 => k_is); (case l17 => k_is); (case c17 => k_is); (case k17 => k_is); (case a18 => k_is); (case l18 => k_is); (case c18 => k_is); (case k18 => k_is); (case a19 => k_is); (case l19 => k_is); (case c19 => k_is); (case k19 => k_is); (case a20 => k_is); (case l20 => k_is); (case c20 => k_is); (case k20 => k_is); (case a21 => k_is); (case l21 => k_is); (case c21 => k_is); (case k21 => k_is); (case a22 => k_is); (case l22 => k_is); (case c22 => k_is); (case k22 => k_is); (case a23 => k_is); (case l23 => k_is); (case c23 => k_is); (case k23 => k_is); (case a24 => k_is); (case l24 => k_is); (case c24 => k_is); (case k24 => k_is); (case a25 => k_is); (case l25 => k_is); (case c25 => k_is); (case k25 => k_is); (case a26 => k_is); (case l26 => k_is); (case c26 => k_is); (case k26 => k_is); (case a27 => k_is); (case l27 => k_is); (case c27 => k_is); (case k27 => k_is); (case a28 => k_is); (case l28 => k_is); (case c28 => k_is); (case k28 => k_is); (case a29 => k_is); (case l29 => k_is); (case c29 => k_is); (case k29 => k_is); (case a30 => k_is); (case l30 => k_is); (case c30 => k_is); (case k30 => k_is); (case a31 => k_is); (case l31 => k_is); (case c31 => k_is); (case k31 => k_is); (case a32 => k_is); (case l32 => k_is); (case c32 => k_is); (case k32 => k_is); (case a33 => k_is); (case l33 => k_is); (case c33 => k_is); (case k33 => k_is); (case a34 => k_is); (case l34 => k_is); (case c34 => k_is); (case k34 => k_is); (case a35 => k_is); (case l35 => k_is); (case c35 => k_is); (case k35 => k_is); (case a36 => k_is); (case l36 => k_is); (case c36 => k_is); (case k36 => k_is); (case a37 => k_is); (case l37 => k_is); (case c37 => k_is); (case k37 => k_is); (case a38 => k_is); (case l38 => k_is); (case c38 => k_is); (case k38 => k_is); (case a39 => k_is); (case l39 => k_is); (case c39 => k_is); (case k39 => k_is); (case a40 => k_is); (case l40 => k_is); (case c40 => k_is); (case k40 => k_is); (case z_abs => k_is); (case z_all => k_is); (case z_bool => k_is); (case z_int => k_is); (case z_isinstance => k_is); (case z_len => k_is); (case z_list => k_is); (case z_max => k_is); (case z_range => k_is); (case z_tuple => k_is); (case g_END => k_is); (case luEND => k_is); (case g_START => k_is); (case luSTART => k_is)

