import PyProof.Rows.All
import HandS.ForMost
import HandS.Wide
import HandS.TupAny
import HandS.Zip
import HandS.Style
import HandS.Deep
import HandS.IsInst
import PySem.Challenge.RW_justthepart_k01_whole_polynomials
set_option Elab.async false
set_option linter.all false
set_option maxRecDepth 100000
set_option maxHeartbeats 4000000
/-! DL: what a def computes, as a plain function of plain data; its derivation over the hand layer. -/
namespace DL
open PySem PySem.Spec PyProof.Rows L2

/-! ### data, cells, locals -/
abbrev Dat := PyData
/-- a reference to the n-th cell (a list that several defs share and change) -/
abbrev cel (n : Nat) : Dat := .dict [(.int n, .none)]
/-- the script: a list that is read alone -/
abbrev seal_ (ns : List Int) : Dat := .dict [(.none, .list (ns.map PyData.int))]
inductive Cel where
  | ls (ds : List Dat)
abbrev Sto := List Cel
/-- a local: unassigned, plain data, a list of its own that it may change -/
inductive Slt where
  | un | fz (d : Dat) | ow (ds : List Dat)
abbrev Lcs := List Slt
inductive Res (α : Type) where
  | bad | ok (a : α) (s : Sto)
inductive Flo where
  | bad | nx (e : Lcs) (s : Sto) | rt (d : Dat) (s : Sto) | bk (e : Lcs) (s : Sto) | ct (e : Lcs) (s : Sto)

/-! ### how data lie in the heap -/
mutual
def Rp (K : PySem.W.Frag) (as : List Addr) (F : Hp) : Dat → V → Prop
  | .none, v => v = .non
  | .bool b, v => v = .bl b
  | .int i, v => v = .int i
  | .str x, v => v = .str x
  | .list ds, v => ∃ a xs, v = .ref a ∧ F a = some (.lst xs) ∧ RpL K as F ds xs
  | .tuple ds, v => ∃ a xs, v = .ref a ∧ SqT K F a xs ∧ RpL K as F ds xs
  | .dict kvs, v => match kvs with
    | [(.int n, .none)] => ∃ a, v = .ref a ∧ as[n.toNat]? = some a
    | [(.none, .list ds)] => ∃ (a : Addr) (ns : List Int), v = .ref a ∧ ds = ns.map PyData.int ∧ SqL K F a (ns.map V.int)
    | _ => False
def RpL (K : PySem.W.Frag) (as : List Addr) (F : Hp) : List Dat → List V → Prop
  | [], [] => True
  | d :: ds, v :: vs => Rp K as F d v ∧ RpL K as F ds vs
  | [], _ :: _ => False
  | _ :: _, [] => False
end

theorem sqL_mono {K : PySem.W.Frag} {F F' : Hp} {a : Addr} {xs : List V} (h : Same F F') (q : SqL K F a xs) : SqL K F' a xs := h.seq q
theorem sqT_mono {K : PySem.W.Frag} {F F' : Hp} {a : Addr} {xs : List V} (e : Same F F') (h : SqT K F a xs) : SqT K F' a xs := by
  rcases h with (h | ⟨o, h⟩) | h
  · exact .inl (.inl (e _ _ h))
  · exact .inl (.inr ⟨o, e _ _ h⟩)
  · exact .inr h
/-- one list begins with the other -/
def Beg (as as' : List Addr) : Prop := ∃ more, as' = as ++ more
theorem Beg.refl (as : List Addr) : Beg as as := ⟨[], by simp⟩
theorem Beg.trans {a b c : List Addr} (h : Beg a b) (h' : Beg b c) : Beg a c := by
  obtain ⟨x, rfl⟩ := h
  obtain ⟨y, rfl⟩ := h'
  exact ⟨x ++ y, by simp⟩
theorem Beg.get {as as' : List Addr} (h : Beg as as') {n : Nat} {a : Addr} (e : as[n]? = some a) : as'[n]? = some a := by
  obtain ⟨x, rfl⟩ := h
  rw [List.getElem?_append_left (List.getElem?_eq_some_iff.mp e).1]
  exact e
theorem Beg.mem {as as' : List Addr} (h : Beg as as') {a : Addr} (e : a ∈ as) : a ∈ as' := by
  obtain ⟨x, rfl⟩ := h
  exact List.mem_append_left _ e
mutual
theorem Rp.mono {K : PySem.W.Frag} {as as' : List Addr} {F F' : Hp} (hb : Beg as as') (hs : Same F F') : ∀ (d : Dat) (v : V), Rp K as F d v → Rp K as' F' d v
  | .none, v, h => by simpa [Rp] using h
  | .bool b, v, h => by simpa [Rp] using h
  | .int i, v, h => by simpa [Rp] using h
  | .str x, v, h => by simpa [Rp] using h
  | .list ds, v, h => by
    simp only [Rp] at h ⊢
    obtain ⟨a, xs, e, q, r⟩ := h
    exact ⟨a, xs, e, hs _ _ q, RpL.mono hb hs ds xs r⟩
  | .tuple ds, v, h => by
    simp only [Rp] at h ⊢
    obtain ⟨a, xs, e, q, r⟩ := h
    exact ⟨a, xs, e, sqT_mono hs q, RpL.mono hb hs ds xs r⟩
  | .dict kvs, v, h => by
    unfold Rp at h ⊢
    split at h
    · obtain ⟨a, e, q⟩ := h
      exact ⟨a, e, hb.get q⟩
    · obtain ⟨a, ns, e, e2, q⟩ := h
      exact ⟨a, ns, e, e2, sqL_mono hs q⟩
    · exact h.elim
theorem RpL.mono {K : PySem.W.Frag} {as as' : List Addr} {F F' : Hp} (hb : Beg as as') (hs : Same F F') : ∀ (ds : List Dat) (vs : List V), RpL K as F ds vs → RpL K as' F' ds vs
  | [], [], h => by simp [RpL]
  | d :: ds, v :: vs, h => by
    simp only [RpL] at h ⊢
    exact ⟨Rp.mono hb hs d v h.1, RpL.mono hb hs ds vs h.2⟩
  | [], _ :: _, h => by simp [RpL] at h
  | _ :: _, [], h => by simp [RpL] at h
end
section
variable {K : PySem.W.Frag} {as : List Addr} {F : Hp}
theorem RpL.length : ∀ {ds : List Dat} {vs : List V}, RpL K as F ds vs → vs.length = ds.length
  | [], [], _ => rfl
  | d :: ds, v :: vs, h => by
    simp only [RpL] at h
    simp [RpL.length h.2]
  | [], _ :: _, h => by simp [RpL] at h
  | _ :: _, [], h => by simp [RpL] at h
theorem RpL.get : ∀ {ds : List Dat} {vs : List V} {i : Nat} {v : V}, RpL K as F ds vs → vs[i]? = some v → ∃ d, ds[i]? = some d ∧ Rp K as F d v
  | [], [], i, v, _, e => by simp at e
  | d :: ds, v :: vs, 0, u, h, e => by
    simp only [RpL] at h
    simp at e; subst e
    exact ⟨d, rfl, h.1⟩
  | d :: ds, v :: vs, i + 1, u, h, e => by
    simp only [RpL] at h
    obtain ⟨x, hx, r⟩ := RpL.get (i := i) h.2 (by simpa using e)
    exact ⟨x, by simpa using hx, r⟩
  | [], _ :: _, _, _, h, _ => by simp [RpL] at h
  | _ :: _, [], _, _, h, _ => by simp [RpL] at h
theorem RpL.get' {ds : List Dat} {vs : List V} {i : Nat} {d : Dat} (h : RpL K as F ds vs) (e : ds[i]? = some d) : ∃ v, vs[i]? = some v ∧ Rp K as F d v := by
  have hl := h.length
  have hi : i < vs.length := by rw [hl]; exact (List.getElem?_eq_some_iff.mp e).1
  obtain ⟨x, hx, r⟩ := h.get (List.getElem?_eq_getElem hi)
  rw [e] at hx; cases hx
  exact ⟨_, List.getElem?_eq_getElem hi, r⟩
theorem RpL.append : ∀ {ds es : List Dat} {vs ws : List V}, RpL K as F ds vs → RpL K as F es ws → RpL K as F (ds ++ es) (vs ++ ws)
  | [], _, [], _, _, h => h
  | d :: ds, es, v :: vs, ws, h, h' => by
    simp only [RpL, List.cons_append] at h ⊢
    exact ⟨h.1, RpL.append h.2 h'⟩
  | [], _, _ :: _, _, h, _ => by simp [RpL] at h
  | _ :: _, _, [], _, h, _ => by simp [RpL] at h
theorem RpL.one {d : Dat} {v : V} (h : Rp K as F d v) : RpL K as F [d] [v] := by simp only [RpL]; exact ⟨h, trivial⟩
theorem RpL.nil : RpL K as F [] [] := by simp [RpL]
theorem RpL.cons {d : Dat} {v : V} {ds : List Dat} {vs : List V} (h : Rp K as F d v) (t : RpL K as F ds vs) : RpL K as F (d :: ds) (v :: vs) := by simp only [RpL]; exact ⟨h, t⟩
theorem RpL.take : ∀ {ds : List Dat} {vs : List V} (n : Nat), RpL K as F ds vs → RpL K as F (ds.take n) (vs.take n)
  | _, _, 0, _ => by simp [RpL]
  | [], [], n + 1, _ => by simp [RpL]
  | d :: ds, v :: vs, n + 1, h => by
    simp only [RpL, List.take_succ_cons] at h ⊢
    exact ⟨h.1, RpL.take n h.2⟩
  | [], _ :: _, _, h => by simp [RpL] at h
  | _ :: _, [], _, h => by simp [RpL] at h
theorem RpL.drop : ∀ {ds : List Dat} {vs : List V} (n : Nat), RpL K as F ds vs → RpL K as F (ds.drop n) (vs.drop n)
  | _, _, 0, h => h
  | [], [], n + 1, _ => by simp [RpL]
  | d :: ds, v :: vs, n + 1, h => by
    simp only [RpL, List.drop_succ_cons] at h ⊢
    exact RpL.drop n h.2
  | [], _ :: _, _, h => by simp [RpL] at h
  | _ :: _, [], _, h => by simp [RpL] at h
theorem RpL.set : ∀ {ds : List Dat} {vs : List V} (i : Nat) {d : Dat} {v : V}, RpL K as F ds vs → Rp K as F d v → RpL K as F (ds.set i d) (vs.set i v)
  | [], [], _, _, _, _, _ => by simp [RpL]
  | d :: ds, v :: vs, 0, _, _, h, r => by
    simp only [RpL, List.set_cons_zero] at h ⊢
    exact ⟨r, h.2⟩
  | d :: ds, v :: vs, i + 1, _, _, h, r => by
    simp only [RpL, List.set_cons_succ] at h ⊢
    exact ⟨h.1, RpL.set i h.2 r⟩
  | [], _ :: _, _, _, _, h, _ => by simp [RpL] at h
  | _ :: _, [], _, _, _, h, _ => by simp [RpL] at h
end

/-! ### the world: the cells' places, the places that are someone's own -/
structure Wd where
  as : List Addr
  ow : Addr → Prop
open Classical in
/-- what stands still -/
noncomputable def Fz (w : Wd) (H : Hp) : Hp := fun a => if a ∈ w.as ∨ w.ow a then none else H a
theorem Fz_get {w : Wd} {H : Hp} {a : Addr} {o : HO} (h : Fz w H a = some o) : H a = some o ∧ a ∉ w.as ∧ ¬ w.ow a := by
  unfold Fz at h
  split at h
  · cases h
  · rename_i n
    exact ⟨h, fun q => n (.inl q), fun q => n (.inr q)⟩
theorem Fz_of {w : Wd} {H : Hp} {a : Addr} {o : HO} (h : H a = some o) (h1 : a ∉ w.as) (h2 : ¬ w.ow a) : Fz w H a = some o := by
  unfold Fz
  rw [if_neg (by rintro (q | q); exact h1 q; exact h2 q)]
  exact h
theorem Fz_sub {w : Wd} {H : Hp} : Same (Fz w H) H := fun a o h => (Fz_get h).1
structure Gx where
  K : PySem.W.Frag
  H0 : Hp
  as0 : List Addr
  O0 : Addr → Prop

structure IE (G : Gx) (w : Wd) (e : Lcs) (s : Sto) (σ : L2.St) (H : Hp) : Prop where
  len : e.length = σ.length
  slot : ∀ (i : Nat) d, e[i]? = some (.fz d) → ∃ v, σ[i]? = some (some v) ∧ Rp G.K w.as (Fz w H) d v
  own : ∀ (i : Nat) ds, e[i]? = some (.ow ds) → ∃ p vs, σ[i]? = some (some (.ref p)) ∧ w.ow p ∧ G.H0 p = none ∧ ¬ G.O0 p ∧ H p = some (.lst vs) ∧ RpL G.K w.as (Fz w H) ds vs
  inj : ∀ (i j : Nat) p ds es, e[i]? = some (.ow ds) → e[j]? = some (.ow es) → σ[i]? = some (some (.ref p)) → σ[j]? = some (some (.ref p)) → i = j
  slen : w.as.length = s.length
  cells : ∀ (n : Nat) ds, s[n]? = some (.ls ds) → ∃ a vs, w.as[n]? = some a ∧ H a = some (.lst vs) ∧ RpL G.K w.as (Fz w H) ds vs
  nd : w.as.Nodup
  dis : ∀ a ∈ w.as, ¬ w.ow a
  beg : Beg G.as0 w.as
  o0 : ∀ a, G.O0 a → w.ow a
  there : ∀ a, w.ow a → H a ≠ none
  keep : ∀ a o, G.H0 a = some o → a ∉ G.as0 → H a = some o
  cfresh : ∀ a, a ∈ w.as → a ∉ G.as0 → G.H0 a = none

/-- what an expression leaves as it was -/
structure EExt (w : Wd) (H : Hp) (w' : Wd) (H' : Hp) : Prop where
  beg : Beg w.as w'.as
  same : Same (Fz w H) (Fz w' H')
  ow : w'.ow = w.ow
  own : ∀ a, w.ow a → H' a = H a
/-- what a statement leaves as it was -/
structure FExt (w : Wd) (H : Hp) (w' : Wd) (H' : Hp) : Prop where
  beg : Beg w.as w'.as
  same : Same (Fz w H) (Fz w' H')
section
variable {w w1 w2 : Wd} {H H1 H2 : Hp}
theorem EExt.refl : EExt w H w H := ⟨.refl _, .refl _, rfl, fun _ _ => rfl⟩
theorem EExt.trans (a : EExt w H w1 H1) (b : EExt w1 H1 w2 H2) : EExt w H w2 H2 :=
  ⟨a.beg.trans b.beg, a.same.trans b.same, b.ow.trans a.ow, fun x hx => (b.own x (by rw [a.ow]; exact hx)).trans (a.own x hx)⟩
theorem EExt.f (a : EExt w H w1 H1) : FExt w H w1 H1 := ⟨a.beg, a.same⟩
theorem FExt.refl : FExt w H w H := ⟨.refl _, .refl _⟩
theorem FExt.trans (a : FExt w H w1 H1) (b : FExt w1 H1 w2 H2) : FExt w H w2 H2 := ⟨a.beg.trans b.beg, a.same.trans b.same⟩
theorem FExt.rp {K : PySem.W.Frag} (x : FExt w H w1 H1) {d : Dat} {v : V} (h : Rp K w.as (Fz w H) d v) : Rp K w1.as (Fz w1 H1) d v := Rp.mono x.beg x.same d v h
theorem FExt.rpl {K : PySem.W.Frag} (x : FExt w H w1 H1) {d : List Dat} {v : List V} (h : RpL K w.as (Fz w H) d v) : RpL K w1.as (Fz w1 H1) d v := RpL.mono x.beg x.same d v h
theorem EExt.rp {K : PySem.W.Frag} (x : EExt w H w1 H1) {d : Dat} {v : V} (h : Rp K w.as (Fz w H) d v) : Rp K w1.as (Fz w1 H1) d v := x.f.rp h
theorem EExt.rpl {K : PySem.W.Frag} (x : EExt w H w1 H1) {d : List Dat} {v : List V} (h : RpL K w.as (Fz w H) d v) : RpL K w1.as (Fz w1 H1) d v := x.f.rpl h
end
section
variable {G : Gx} {w : Wd} {e : Lcs} {s : Sto} {σ : L2.St} {H : Hp}
theorem IE.cellThere (I : IE G w e s σ H) {a : Addr} (ha : a ∈ w.as) : H a ≠ none := by
  obtain ⟨n, hn, e1⟩ := List.getElem_of_mem ha
  have hs : n < s.length := by rw [← I.slen]; exact hn
  cases hc : s[n]'hs with
  | ls ds =>
    obtain ⟨b, vs, h1, h2, _⟩ := I.cells n ds (by rw [List.getElem?_eq_getElem hs, hc])
    rw [List.getElem?_eq_getElem hn, e1] at h1
    cases h1
    rw [h2]; simp
/-- a new object -/
theorem IE.newF (I : IE G w e s σ H) {p : Addr} {o : HO} (hp : H p = none) : Fz w (upd H p o) p = some o :=
  Fz_of upd_same (fun q => I.cellThere q hp) (fun q => I.there p q hp)
theorem IE.sameF (I : IE G w e s σ H) {p : Addr} {o : HO} (hp : H p = none) : Same (Fz w H) (Fz w (upd H p o)) := fun a u h => by
  obtain ⟨h1, h2, h3⟩ := Fz_get h
  exact Fz_of (by rw [upd_ne (ne_of_none h1 hp)]; exact h1) h2 h3
theorem IE.new (I : IE G w e s σ H) {p : Addr} {o : HO} (hp : H p = none) : IE G w e s σ (upd H p o) := by
  have sm := I.sameF (o := o) hp
  have hx : ∀ {a : Addr} {u : HO}, H a = some u → upd H p o a = some u := fun {a u} h => by rw [upd_ne (ne_of_none h hp)]; exact h
  refine ⟨I.len, fun i d h => ?_, fun i ds h => ?_, I.inj, I.slen, fun n ds h => ?_, I.nd, I.dis, I.beg, I.o0, fun a h => ?_, fun a u h h' => hx (I.keep a u h h'), I.cfresh⟩
  · obtain ⟨v, h1, h2⟩ := I.slot i d h
    exact ⟨v, h1, Rp.mono (.refl _) sm _ _ h2⟩
  · obtain ⟨q, vs, h1, h2, h3, h4, h5, h6⟩ := I.own i ds h
    exact ⟨q, vs, h1, h2, h3, h4, hx h5, RpL.mono (.refl _) sm _ _ h6⟩
  · obtain ⟨a, vs, h1, h2, h3⟩ := I.cells n ds h
    exact ⟨a, vs, h1, hx h2, RpL.mono (.refl _) sm _ _ h3⟩
  · have q := I.there a h
    cases z : H a with
    | none => exact absurd z q
    | some u => rw [hx z]; simp
theorem IE.newE (I : IE G w e s σ H) {p : Addr} {o : HO} (hp : H p = none) : EExt w H w (upd H p o) :=
  ⟨.refl _, I.sameF hp, rfl, fun a ha => upd_ne fun z => by subst z; exact I.there a ha hp⟩
end
end DL

namespace DL
open PySem PySem.Spec PyProof.Rows L2

/-! ### the functions that stand for pieces of a def -/
abbrev FE := Lcs → Sto → Res Dat
abbrev FT := Lcs → Sto → Res Bool
abbrev FA := Lcs → Sto → Res (List Dat)
abbrev FS := Lcs → Sto → Flo
abbrev FG := Dat → Lcs → Sto → Res Lcs

def Res.holds {α : Type} (r : Res α) (P : α → Sto → Prop) : Prop := match r with
  | .bad => False
  | .ok a s => P a s
def Res.bind {α β : Type} (r : Res α) (f : α → Sto → Res β) : Res β := match r with
  | .bad => .bad
  | .ok a s => f a s
@[simp] theorem bind_ok {α β : Type} (a : α) (s : Sto) (f : α → Sto → Res β) : (Res.ok a s).bind f = f a s := rfl
@[simp] theorem bind_bad {α β : Type} (f : α → Sto → Res β) : (Res.bad : Res α).bind f = .bad := rfl
theorem holds_bind {α β : Type} {r : Res α} {f : α → Sto → Res β} {P : β → Sto → Prop} (h : (r.bind f).holds P) : r.holds fun a s => (f a s).holds P := by
  cases r with
  | bad => exact h
  | ok a s => exact h
theorem holds_imp {α : Type} {r : Res α} {P P' : α → Sto → Prop} (h : r.holds P) (k : ∀ a s, P a s → P' a s) : r.holds P' := by
  cases r with
  | bad => exact h
  | ok a s => exact k _ _ h

/-- wanted behind an expression -/
def kE (G : Gx) (w : Wd) (e : Lcs) (σ : L2.St) (H : Hp) (Q : VK) : Dat → Sto → Prop := fun d s' => ∀ w' v H', IE G w' e s' σ H' → EExt w H w' H' → Rp G.K w'.as (Fz w' H') d v → Q v H'
def kT (G : Gx) (w : Wd) (e : Lcs) (σ : L2.St) (H : Hp) (Q : Bool → Hp → Prop) : Bool → Sto → Prop := fun b s' => ∀ w' H', IE G w' e s' σ H' → EExt w H w' H' → Q b H'
def kA (G : Gx) (w : Wd) (e : Lcs) (σ : L2.St) (H : Hp) (Q : List V → Hp → Prop) : List Dat → Sto → Prop := fun ds s' => ∀ w' vs H', IE G w' e s' σ H' → EExt w H w' H' → RpL G.K w'.as (Fz w' H') ds vs → Q vs H'
def tE (G : Gx) (F : FE) : TE := fun σ H Q => ∃ w e s, IE G w e s σ H ∧ (F e s).holds (kE G w e σ H Q)
def tT (G : Gx) (F : FT) : TT := fun σ H Q => ∃ w e s, IE G w e s σ H ∧ (F e s).holds (kT G w e σ H Q)
def tA (G : Gx) (F : FA) : TA := fun σ H Q => ∃ w e s, IE G w e s σ H ∧ (F e s).holds (kA G w e σ H Q)
theorem kE_ext {G : Gx} {w w1 : Wd} {e : Lcs} {σ : L2.St} {H H1 : Hp} {Q : VK} {d : Dat} {s : Sto} (x : EExt w H w1 H1) (h : kE G w e σ H Q d s) : kE G w1 e σ H1 Q d s :=
  fun w' v H' I x' r => h w' v H' I (x.trans x') r
theorem kT_ext {G : Gx} {w w1 : Wd} {e : Lcs} {σ : L2.St} {H H1 : Hp} {Q : Bool → Hp → Prop} {d : Bool} {s : Sto} (x : EExt w H w1 H1) (h : kT G w e σ H Q d s) : kT G w1 e σ H1 Q d s :=
  fun w' H' I x' => h w' H' I (x.trans x')
theorem kA_ext {G : Gx} {w w1 : Wd} {e : Lcs} {σ : L2.St} {H H1 : Hp} {Q : List V → Hp → Prop} {d : List Dat} {s : Sto} (x : EExt w H w1 H1) (h : kA G w e σ H Q d s) : kA G w1 e σ H1 Q d s :=
  fun w' v H' I x' r => h w' v H' I (x.trans x') r

section
variable {X : Cx} {G : Gx}
theorem PE_imp {a : Expr} {t t' : TE} (h : PE X a t) (k : ∀ σ H Q, t' σ H Q → t σ H Q) : PE X a t' := ⟨fun pins s σ H Q I q => h.run pins s σ H Q I (k _ _ _ q)⟩
theorem PT_imp {a : Expr} {t t' : TT} (h : PT X a t) (k : ∀ σ H Q, t' σ H Q → t σ H Q) : PT X a t' := ⟨fun pins s σ H Q I q => h.run pins s σ H Q I (k _ _ _ q)⟩
theorem PW_imp {a : Expr} {t t' : TT} (h : PW X a t) (k : ∀ σ H Q, t' σ H Q → t σ H Q) : PW X a t' := ⟨fun wh pins s σ H Q I q => h.run wh pins s σ H Q I (k _ _ _ q)⟩
theorem PA_imp {a : List Expr} {t t' : TA} (h : PA X a t) (k : ∀ σ H Q, t' σ H Q → t σ H Q) : PA X a t' := ⟨fun pos pins s σ H Q I q => h.run pos pins s σ H Q I (k _ _ _ q)⟩
theorem PS_imp {a : Stmt} {t t' : TS} (h : PS X a t) (k : ∀ D σ H, t' D σ H → t D σ H) : PS X a t' := ⟨fun pins s σ H D I q => h.run pins s σ H D I (k _ _ _ q)⟩
theorem PSs_imp {a : List Stmt} {t t' : TS} (h : PSs X a t) (k : ∀ D σ H, t' D σ H → t D σ H) : PSs X a t' := ⟨fun pins s σ H D I q => h.run pins s σ H D I (k _ _ _ q)⟩

/-! ### names, constants -/
@[simp] def fVar (i : Nat) : FE := fun e s => match e[i]? with
  | some (.fz d) => .ok d s
  | _ => .bad
@[simp] def fC (d : Dat) : FE := fun _ s => .ok d s
theorem de_var (i : Nat) {x : Str} {pos : Pos} (hN : X.N[i]? = some x := by rfl) (hv : Vis X.env.scope x := by first | exact Or.inl rfl | exact Or.inr (Or.inl rfl) | exact Or.inr (Or.inr rfl)) (hd : (x == ("__debug__" : Str)) = false := by decide)
    (hcd : (x == ("__classdict__" : Str)) = false := by decide) : PE X (.Name x pos) (tE G (fVar i)) := PE_imp (pe_var (i := i) hN hv hd hcd) fun σ H Q ⟨w, e, s, I, h⟩ => by
  unfold fVar at h
  split at h
  · rename_i d hd
    obtain ⟨v, h1, h2⟩ := I.slot i d hd
    exact ⟨v, h1, h w v H I .refl h2⟩
  · exact h.elim
theorem de_c {a : Expr} {v : V} {d : Dat} (h : PE X a (tC v)) (hr : ∀ F as, Rp G.K as F d v) : PE X a (tE G (fC d)) := PE_imp h fun σ H Q ⟨w, e, s, I, h⟩ => h w v H I .refl (hr _ _)
theorem de_int {i j pos} : PE X (.Constant (.int i) j pos) (tE G (fC (.int i))) := de_c pe_int fun _ _ => by simp [Rp]
theorem de_bl {b j pos} : PE X (.Constant (.bool b) j pos) (tE G (fC (.bool b))) := de_c pe_bl fun _ _ => by simp [Rp]
theorem de_non {j pos} : PE X (.Constant .none j pos) (tE G (fC .none)) := de_c pe_non fun _ _ => by simp [Rp]
theorem de_str {x j pos} : PE X (.Constant (.str x) j pos) (tE G (fC (.str x))) := de_c pe_str fun _ _ => by simp [Rp]
theorem de_glob {x : Str} {v : V} {u : Value} {d : Dat} {pos : Pos} (hm : X.mg x = some u) (r : RelV v u) (hr : ∀ F as, Rp G.K as F d v) (hg : Gl X x := by rfl) (hd : (x == ("__debug__" : Str)) = false := by decide) : PE X (.Name x pos) (tE G (fC d)) :=
  de_c (pe_glob hg hm r hd) hr

/-! ### operators -/
@[simp] def fBin (g : Dat → Dat → Sto → Res Dat) (Fa Fb : FE) : FE := fun e s => (Fa e s).bind fun a s1 => (Fb e s1).bind fun b s2 => g a b s2
@[simp] def fUn (g : Dat → Sto → Res Dat) (Fa : FE) : FE := fun e s => (Fa e s).bind fun a s1 => g a s1
/-- a two-place rule by values does what g says -/
def OpD (G : Gx) (r : R2) (g : Dat → Dat → Sto → Res Dat) : Prop := ∀ w e s σ H x y a b Q, IE G w e s σ H → Rp G.K w.as (Fz w H) a x → Rp G.K w.as (Fz w H) b y → (g a b s).holds (kE G w e σ H Q) → r x y H Q
def UnD (G : Gx) (r : V → Hp → VK → Prop) (g : Dat → Sto → Res Dat) : Prop := ∀ w e s σ H x a Q, IE G w e s σ H → Rp G.K w.as (Fz w H) a x → (g a s).holds (kE G w e σ H Q) → r x H Q
def CallD (G : Gx) (r : List V → Hp → VK → Prop) (g : List Dat → Sto → Res Dat) : Prop := ∀ w e s σ H xs ds Q, IE G w e s σ H → RpL G.K w.as (Fz w H) ds xs → (g ds s).holds (kE G w e σ H Q) → r xs H Q
theorem tOp_of {r : R2} {g : Dat → Dat → Sto → Res Dat} {Fa Fb : FE} (hg : OpD G r g) {σ : L2.St} {H : Hp} {Q : VK} (h : tE G (fBin g Fa Fb) σ H Q) : tOp r (tE G Fa) (tE G Fb) σ H Q := by
  obtain ⟨w, e, s, I, h⟩ := h
  refine ⟨w, e, s, I, holds_imp (holds_bind h) fun a s1 h1 w1 x H1 I1 x1 r1 => ?_⟩
  refine ⟨w1, e, s1, I1, holds_imp (holds_bind h1) fun b s2 h2 w2 y H2 I2 x2 r2 => ?_⟩
  exact hg w2 e s2 σ H2 x y a b Q I2 (x2.rp r1) r2 (holds_imp h2 fun d s3 h3 => kE_ext (x1.trans x2) h3)
theorem de_bin {a b : Expr} {op : Operator} {pos : Pos} {r : R2} {g : Dat → Dat → Sto → Res Dat} {Fa Fb : FE} (ho : OpR X (binaryOp op) r) (hg : OpD G r g) (ha : PE X a (tE G Fa)) (hb : PE X b (tE G Fb)) : PE X (.BinOp a op b pos) (tE G (fBin g Fa Fb)) :=
  PE_imp (pe_op ho ha hb) fun _ _ _ h => tOp_of hg h
theorem de_cmp {a b : Expr} {op : CmpOp} {pos : Pos} {r : R2} {g : Dat → Dat → Sto → Res Dat} {Fa Fb : FE} (ho : OpR X (compareOp op) r) (hg : OpD G r g) (ha : PE X a (tE G Fa)) (hb : PE X b (tE G Fb)) (hm : behindInMarks op b = false := by first | exact nomark _ | with_unfolding_all rfl) :
    PE X (.Compare a [op] [b] pos) (tE G (fBin g Fa Fb)) := PE_imp (pe_cmpR ho ha hb hm) fun _ _ _ h => tOp_of hg h
theorem de_un {a : Expr} {op : UnaryOp} {pos : Pos} {r : V → Hp → VK → Prop} {g : Dat → Sto → Res Dat} {Fa : FE} (ho : UnR X (unaryOp op) r) (hg : UnD G r g) (ha : PE X a (tE G Fa)) : PE X (.UnaryOp op a pos) (tE G (fUn g Fa)) :=
  PE_imp (pe_un ho ha) fun σ H Q ⟨w, e, s, I, h⟩ => ⟨w, e, s, I, holds_imp (holds_bind h) fun a s1 h1 w1 x H1 I1 x1 r1 => hg w1 e s1 σ H1 x a Q I1 r1 (holds_imp h1 fun d s2 h2 => kE_ext x1 h2)⟩
/-- a value that hangs on no heap -/
theorem flat_ok {w : Wd} {e : Lcs} {s : Sto} {σ : L2.St} {H : Hp} {Q : VK} {d : Dat} {v : V} (I : IE G w e s σ H) (h : (Res.ok d s).holds (kE G w e σ H Q)) (hr : Rp G.K w.as (Fz w H) d v) : Q v H := h w v H I .refl hr
theorem OpD.or {r r' : R2} {g : Dat → Dat → Sto → Res Dat} (h : ∀ w e s σ H x y a b Q, IE G w e s σ H → Rp G.K w.as (Fz w H) a x → Rp G.K w.as (Fz w H) b y → (g a b s).holds (kE G w e σ H Q) → r x y H Q ∨ r' x y H Q) : OpD G (fun x y H Q => r x y H Q ∨ r' x y H Q) g := h
/-- ints in, an int out -/
@[simp] def gII (C : Int → Int → Bool) (f : Int → Int → Int) : Dat → Dat → Sto → Res Dat := fun a b s => match a, b with
  | .int i, .int j => if C i j then .ok (.int (f i j)) s else .bad
  | _, _ => .bad
@[simp] def gII0 (f : Int → Int → Int) : Dat → Dat → Sto → Res Dat := fun a b s => match a, b with
  | .int i, .int j => .ok (.int (f i j)) s
  | _, _ => .bad
@[simp] def gIB (f : Int → Int → Bool) : Dat → Dat → Sto → Res Dat := fun a b s => match a, b with
  | .int i, .int j => .ok (.bool (f i j)) s
  | _, _ => .bad
theorem rp_int {K as F} {i : Int} {v : V} (h : Rp K as F (.int i) v) : v = .int i := by simpa [Rp] using h
theorem rp_bool {K as F} {i : Bool} {v : V} (h : Rp K as F (.bool i) v) : v = .bl i := by simpa [Rp] using h
theorem rp_str {K as F} {i : Str} {v : V} (h : Rp K as F (.str i) v) : v = .str i := by simpa [Rp] using h
theorem rp_none {K as F} {v : V} (h : Rp K as F .none v) : v = .non := by simpa [Rp] using h
theorem rp_list {K as F} {ds : List Dat} {v : V} (h : Rp K as F (.list ds) v) : ∃ a xs, v = .ref a ∧ F a = some (.lst xs) ∧ RpL K as F ds xs := by simpa only [Rp] using h
theorem rp_tuple {K as F} {ds : List Dat} {v : V} (h : Rp K as F (.tuple ds) v) : ∃ a xs, v = .ref a ∧ SqT K F a xs ∧ RpL K as F ds xs := by simpa only [Rp] using h
theorem rp_cel {K as F} {n : Nat} {v : V} (h : Rp K as F (cel n) v) : ∃ a, v = .ref a ∧ as[n]? = some a := by simpa [Rp] using h
theorem rp_i {K as F} {i : Int} : Rp K as F (.int i) (.int i) := by simp [Rp]
theorem rp_b {K as F} {i : Bool} : Rp K as F (.bool i) (.bl i) := by simp [Rp]
theorem rp_s {K as F} {i : Str} : Rp K as F (.str i) (.str i) := by simp [Rp]
theorem rp_n {K as F} : Rp K as F .none .non := by simp [Rp]
theorem opII {C : Int → Int → Prop} {C' : Int → Int → Bool} {f : Int → Int → Int} (hc : ∀ i j, C' i j = true → C i j) : OpD G (rI C fun i j => .int (f i j)) (gII C' f) := by
  intro w e s σ H x y a b Q I ra rb h
  unfold gII at h
  split at h
  · rename_i i j
    split at h
    · rename_i c
      exact ⟨i, j, rp_int ra, rp_int rb, hc i j c, flat_ok I h rp_i⟩
    · exact h.elim
  · exact h.elim
theorem opII0 {f : Int → Int → Int} : OpD G (rI0 fun i j => .int (f i j)) (gII0 f) := by
  intro w e s σ H x y a b Q I ra rb h
  unfold gII0 at h
  split at h
  · rename_i i j
    exact ⟨i, j, rp_int ra, rp_int rb, flat_ok I h rp_i⟩
  · exact h.elim
theorem opIB {f : Int → Int → Bool} : OpD G (rI0 fun i j => .bl (f i j)) (gIB f) := by
  intro w e s σ H x y a b Q I ra rb h
  unfold gIB at h
  split at h
  · rename_i i j
    exact ⟨i, j, rp_int ra, rp_int rb, flat_ok I h rp_b⟩
  · exact h.elim
def cMul (i j : Int) : Bool := decide (i.natAbs.log2 + j.natAbs.log2 < 1000000)
def cDiv (i j : Int) : Bool := decide (0 < j) && decide (j.natAbs.log2 < 9000)
def cMod (i j : Int) : Bool := decide (0 < j)
def cPow (i j : Int) : Bool := decide (0 ≤ j) && decide (j ≤ 1000000) && decide (i.natAbs < 2 ^ 64)
section
variable {a b : Expr} {pos : Pos} {Fa Fb : FE}
theorem de_sub (ha : PE X a (tE G Fa)) (hb : PE X b (tE G Fb)) : PE X (.BinOp a .Sub b pos) (tE G (fBin (gII0 (· - ·)) Fa Fb)) := de_bin op_sub opII0 ha hb
theorem de_addI (ha : PE X a (tE G Fa)) (hb : PE X b (tE G Fb)) : PE X (.BinOp a .Add b pos) (tE G (fBin (gII0 (· + ·)) Fa Fb)) := de_bin op_add opII0 ha hb
theorem de_mul (ha : PE X a (tE G Fa)) (hb : PE X b (tE G Fb)) : PE X (.BinOp a .Mult b pos) (tE G (fBin (gII cMul (· * ·)) Fa Fb)) := de_bin op_mulW (opII fun i j h => show i.natAbs.log2 + j.natAbs.log2 < 1000000 from of_decide_eq_true h) ha hb
theorem de_fdiv (ha : PE X a (tE G Fa)) (hb : PE X b (tE G Fb)) : PE X (.BinOp a .FloorDiv b pos) (tE G (fBin (gII cDiv (· / ·)) Fa Fb)) := de_bin op_fdivW (opII fun i j h => by
  unfold cDiv at h
  rw [Bool.and_eq_true] at h
  exact ⟨of_decide_eq_true h.1, of_decide_eq_true h.2⟩) ha hb
theorem de_mod (ha : PE X a (tE G Fa)) (hb : PE X b (tE G Fb)) : PE X (.BinOp a .Mod b pos) (tE G (fBin (gII cMod (· % ·)) Fa Fb)) := de_bin op_mod (opII fun i j h => of_decide_eq_true h) ha hb
theorem de_pow (ha : PE X a (tE G Fa)) (hb : PE X b (tE G Fb)) : PE X (.BinOp a .Pow b pos) (tE G (fBin (gII cPow fun i j => i ^ j.toNat) Fa Fb)) := de_bin op_pow (opII fun i j h => by
  unfold cPow at h
  rw [Bool.and_eq_true, Bool.and_eq_true] at h
  exact ⟨of_decide_eq_true h.1.1, of_decide_eq_true h.1.2, of_decide_eq_true h.2⟩) ha hb
theorem de_shl (ha : PE X a (tE G Fa)) (hb : PE X b (tE G Fb)) : PE X (.BinOp a .LShift b pos) (tE G (fBin (gII cPow fun i j => i * 2 ^ j.toNat) Fa Fb)) := de_bin op_shl (opII fun i j h => by
  unfold cPow at h
  rw [Bool.and_eq_true, Bool.and_eq_true] at h
  exact ⟨of_decide_eq_true h.1.1, of_decide_eq_true h.1.2, of_decide_eq_true h.2⟩) ha hb
theorem de_lt (ha : PE X a (tE G Fa)) (hb : PE X b (tE G Fb)) : PE X (.Compare a [.Lt] [b] pos) (tE G (fBin (gIB fun i j => decide (i < j)) Fa Fb)) := de_cmp op_lt opIB ha hb
theorem de_le (ha : PE X a (tE G Fa)) (hb : PE X b (tE G Fb)) : PE X (.Compare a [.LtE] [b] pos) (tE G (fBin (gIB fun i j => decide (i ≤ j)) Fa Fb)) := de_cmp op_le opIB ha hb
theorem de_gt (ha : PE X a (tE G Fa)) (hb : PE X b (tE G Fb)) : PE X (.Compare a [.Gt] [b] pos) (tE G (fBin (gIB fun i j => decide (j < i)) Fa Fb)) := de_cmp op_gt opIB ha hb
theorem de_ge (ha : PE X a (tE G Fa)) (hb : PE X b (tE G Fb)) : PE X (.Compare a [.GtE] [b] pos) (tE G (fBin (gIB fun i j => decide (j ≤ i)) Fa Fb)) := de_cmp op_ge opIB ha hb
end
/-! ### == of data -/
mutual
theorem dp_of {K as F} : ∀ (d : Dat) (v : V), d.canLay0 = true → Rp K as F d v → Dp K F v d
  | .none, v, _, h => by rw [rp_none h]; exact .non
  | .bool b, v, _, h => by rw [rp_bool h]; exact .bl b
  | .int i, v, _, h => by rw [rp_int h]; exact .int i
  | .str x, v, _, h => by rw [rp_str h]; exact .str x
  | .list ds, v, c, h => by
    obtain ⟨a, xs, rfl, q, r⟩ := rp_list h
    exact .lst (.inl (.inl q)) (dpA_of ds xs (by simpa [PyData.canLay0] using c) r)
  | .tuple ds, v, c, h => by
    obtain ⟨a, xs, rfl, q, r⟩ := rp_tuple h
    exact .tup q (dpA_of ds xs (by simpa [PyData.canLay0] using c) r)
  | .dict _, v, c, h => by simp [PyData.canLay0] at c
theorem dpA_of {K as F} : ∀ (ds : List Dat) (vs : List V), PyData.canLayAll0 ds = true → RpL K as F ds vs → DpAll K F vs ds
  | [], [], _, _ => .nil
  | d :: ds, v :: vs, c, h => by
    simp only [PyData.canLayAll0, Bool.and_eq_true] at c
    simp only [RpL] at h
    exact .cons (dp_of d v c.1 h.1) (dpA_of ds vs c.2 h.2)
  | [], _ :: _, _, h => by simp [RpL] at h
  | _ :: _, [], _, h => by simp [RpL] at h
end
mutual
theorem Dp_mono {K : PySem.W.Frag} {F F' : Hp} (hs : Same F F') : ∀ (d : Dat) (v : V), Dp K F v d → Dp K F' v d
  | .none, v, h => by cases h; exact .non
  | .bool b, v, h => by cases h; exact .bl b
  | .int i, v, h => by cases h; exact .int i
  | .str x, v, h => by cases h; exact .str x
  | .list ds, v, h => by
    cases h with
    | lst q r => exact .lst (sqL_mono hs q) (DpA_mono hs ds _ r)
  | .tuple ds, v, h => by
    cases h with
    | tup q r => exact .tup (sqT_mono hs q) (DpA_mono hs ds _ r)
  | .dict _, v, h => by cases h
theorem DpA_mono {K : PySem.W.Frag} {F F' : Hp} (hs : Same F F') : ∀ (ds : List Dat) (vs : List V), DpAll K F vs ds → DpAll K F' vs ds
  | [], vs, h => by cases h; exact .nil
  | d :: ds, vs, h => by
    cases h with
    | cons q r => exact .cons (Dp_mono hs d _ q) (DpA_mono hs ds _ r)
end
def gEq : Dat → Dat → Sto → Res Dat := fun a b s => if SeqAt.shaped a && SeqAt.shaped b then .ok (.bool (PyData.eqv a b)) s else .bad
def gNe : Dat → Dat → Sto → Res Dat := fun a b s => if SeqAt.shaped a && SeqAt.shaped b then .ok (.bool (!PyData.eqv a b)) s else .bad
theorem opEq : OpD G (rEqD G.K) gEq := by
  intro w e s σ H x y a b Q I ra rb h
  unfold gEq at h
  split at h
  · rename_i c
    rw [Bool.and_eq_true] at c
    exact ⟨a, b, Dp_mono Fz_sub _ _ (dp_of a x (SeqAt.canLay_of_shaped c.1) ra), Dp_mono Fz_sub _ _ (dp_of b y (SeqAt.canLay_of_shaped c.2) rb), c.1, c.2, flat_ok I h rp_b⟩
  · exact h.elim
theorem opNe : OpD G (rNeD G.K) gNe := by
  intro w e s σ H x y a b Q I ra rb h
  unfold gNe at h
  split at h
  · rename_i c
    rw [Bool.and_eq_true] at c
    exact ⟨a, b, Dp_mono Fz_sub _ _ (dp_of a x (SeqAt.canLay_of_shaped c.1) ra), Dp_mono Fz_sub _ _ (dp_of b y (SeqAt.canLay_of_shaped c.2) rb), c.1, c.2, flat_ok I h rp_b⟩
  · exact h.elim
section
variable {a b : Expr} {pos : Pos} {Fa Fb : FE}
theorem de_eq (hu : X.A.units + 64 < cLine) (hK : X.K = G.K) (ha : PE X a (tE G Fa)) (hb : PE X b (tE G Fb)) : PE X (.Compare a [.Eq] [b] pos) (tE G (fBin gEq Fa Fb)) := de_cmp (op_eqD hu) (by rw [hK]; exact opEq) ha hb
theorem de_ne (hu : X.A.units + 64 < cLine) (hK : X.K = G.K) (ha : PE X a (tE G Fa)) (hb : PE X b (tE G Fb)) : PE X (.Compare a [.NotEq] [b] pos) (tE G (fBin gNe Fa Fb)) := de_cmp (op_neD hu) (by rw [hK]; exact opNe) ha hb
end
/-! ### -a -/
@[simp] def gNeg : Dat → Sto → Res Dat := fun a s => match a with
  | .int i => .ok (.int (-i)) s
  | _ => .bad
theorem de_neg {a : Expr} {pos : Pos} {Fa : FE} (ha : PE X a (tE G Fa)) : PE X (.UnaryOp .USub a pos) (tE G (fUn gNeg Fa)) := de_un un_neg (fun w e s σ H x a Q I ra h => by
  unfold gNeg at h
  split at h
  · rename_i i
    exact ⟨i, rp_int ra, flat_ok I h rp_i⟩
  · exact h.elim) ha

/-! ### tests -/
/-- a value that is a bool, as a test -/
@[simp] def fB (F : FE) : FT := fun e s => (F e s).bind fun d s' => match d with
  | .bool b => .ok b s'
  | _ => .bad
theorem tB_of {F : FE} {σ : L2.St} {H : Hp} {Q : Bool → Hp → Prop} (h : tT G (fB F) σ H Q) : tB (tE G F) σ H Q := by
  obtain ⟨w, e, s, I, h⟩ := h
  refine ⟨w, e, s, I, holds_imp (holds_bind h) fun d s1 h1 w1 x H1 I1 x1 r1 => ?_⟩
  split at h1
  · rename_i b
    exact ⟨b, rp_bool r1, h1 w1 H1 I1 x1⟩
  · exact h1.elim
theorem dt_val {a : Expr} {F : FE} (h : PE X a (tE G F)) (he : ∀ whole, isTrue a X.env whole = (do let v ← whole; standAt a.pos; holding [v] (truthy v)) := by intro _; rfl) : PT X a (tT G (fB F)) := PT_imp (pt_val h he) fun _ _ _ h => tB_of h
theorem dt_cmp {a b : Expr} {op : CmpOp} {pos : Pos} {r : R2} {g : Dat → Dat → Sto → Res Dat} {Fa Fb : FE} (ho : OpR X (compareOp op) r) (hg : OpD G r g) (ha : PE X a (tE G Fa)) (hb : PE X b (tE G Fb)) (hm : behindInMarks op b = false := by first | exact nomark _ | with_unfolding_all rfl) :
    PT X (.Compare a [op] [b] pos) (tT G (fB (fBin g Fa Fb))) := PT_imp (pt_cmpR ho ha hb hm) fun σ H Q h => by
  obtain ⟨w, e, s, I, h⟩ := h
  show tOp r (tE G Fa) (tE G Fb) σ H fun x H' => ∃ k, x = .bl k ∧ Q k H'
  refine tOp_of hg ⟨w, e, s, I, holds_imp (holds_bind h) fun d s1 h1 w1 x H1 I1 x1 r1 => ?_⟩
  split at h1
  · rename_i b
    exact ⟨b, rp_bool r1, h1 w1 H1 I1 x1⟩
  · exact h1.elim
section
variable {a b : Expr} {pos : Pos} {Fa Fb : FE}
theorem dt_lt (ha : PE X a (tE G Fa)) (hb : PE X b (tE G Fb)) : PT X (.Compare a [.Lt] [b] pos) (tT G (fB (fBin (gIB fun i j => decide (i < j)) Fa Fb))) := dt_cmp op_lt opIB ha hb
theorem dt_le (ha : PE X a (tE G Fa)) (hb : PE X b (tE G Fb)) : PT X (.Compare a [.LtE] [b] pos) (tT G (fB (fBin (gIB fun i j => decide (i ≤ j)) Fa Fb))) := dt_cmp op_le opIB ha hb
theorem dt_gt (ha : PE X a (tE G Fa)) (hb : PE X b (tE G Fb)) : PT X (.Compare a [.Gt] [b] pos) (tT G (fB (fBin (gIB fun i j => decide (j < i)) Fa Fb))) := dt_cmp op_gt opIB ha hb
theorem dt_ge (ha : PE X a (tE G Fa)) (hb : PE X b (tE G Fb)) : PT X (.Compare a [.GtE] [b] pos) (tT G (fB (fBin (gIB fun i j => decide (j ≤ i)) Fa Fb))) := dt_cmp op_ge opIB ha hb
theorem dt_eq (hu : X.A.units + 64 < cLine) (hK : X.K = G.K) (ha : PE X a (tE G Fa)) (hb : PE X b (tE G Fb)) : PT X (.Compare a [.Eq] [b] pos) (tT G (fB (fBin gEq Fa Fb))) := dt_cmp (op_eqD hu) (by rw [hK]; exact opEq) ha hb
theorem dt_ne (hu : X.A.units + 64 < cLine) (hK : X.K = G.K) (ha : PE X a (tE G Fa)) (hb : PE X b (tE G Fb)) : PT X (.Compare a [.NotEq] [b] pos) (tT G (fB (fBin gNe Fa Fb))) := dt_cmp (op_neD hu) (by rw [hK]; exact opNe) ha hb
end
@[simp] def fAnd (Fa Fb : FT) : FT := fun e s => (Fa e s).bind fun a s1 => if a then Fb e s1 else .ok false s1
@[simp] def fOr (Fa Fb : FT) : FT := fun e s => (Fa e s).bind fun a s1 => if a then .ok true s1 else Fb e s1
@[simp] def fNot (Fa : FT) : FT := fun e s => (Fa e s).bind fun a s1 => .ok (!a) s1
section
variable {a b : Expr} {rest : List Expr} {pos : Pos} {Fa Fb : FT}
theorem tAnd_of {σ : L2.St} {H : Hp} {Q : Bool → Hp → Prop} (h : tT G (fAnd Fa Fb) σ H Q) : tAnd (tT G Fa) (tT G Fb) σ H Q := by
  obtain ⟨w, e, s, I, h⟩ := h
  refine ⟨w, e, s, I, holds_imp (holds_bind h) fun d s1 h1 w1 H1 I1 x1 => ?_⟩
  cases d with
  | true => exact iteT ⟨w1, e, s1, I1, holds_imp h1 fun _ _ h2 => kT_ext x1 h2⟩
  | false => exact iteF (h1 w1 H1 I1 x1)
theorem tOr_of {σ : L2.St} {H : Hp} {Q : Bool → Hp → Prop} (h : tT G (fOr Fa Fb) σ H Q) : tOr (tT G Fa) (tT G Fb) σ H Q := by
  obtain ⟨w, e, s, I, h⟩ := h
  refine ⟨w, e, s, I, holds_imp (holds_bind h) fun d s1 h1 w1 H1 I1 x1 => ?_⟩
  cases d with
  | false => exact iteF ⟨w1, e, s1, I1, holds_imp h1 fun _ _ h2 => kT_ext x1 h2⟩
  | true => exact iteT (h1 w1 H1 I1 x1)
theorem dw_and1 (ha : PT X a (tT G Fa)) : PW X (.BoolOp .And [a] pos) (tT G Fa) := pw_and1 ha
theorem dw_or1 (ha : PT X a (tT G Fa)) : PW X (.BoolOp .Or [a] pos) (tT G Fa) := pw_or1 ha
theorem dw_and (ha : PT X a (tT G Fa)) (hb : PW X (.BoolOp .And (b :: rest) pos) (tT G Fb)) : PW X (.BoolOp .And (a :: b :: rest) pos) (tT G (fAnd Fa Fb)) := PW_imp (pw_and ha hb) fun _ _ _ h => tAnd_of h
theorem dw_or (ha : PT X a (tT G Fa)) (hb : PW X (.BoolOp .Or (b :: rest) pos) (tT G Fb)) : PW X (.BoolOp .Or (a :: b :: rest) pos) (tT G (fOr Fa Fb)) := PW_imp (pw_or ha hb) fun _ _ _ h => tOr_of h
theorem dt_bool (h : PW X a (tT G Fa)) : PT X a (tT G Fa) := h.pt
theorem dt_not (ha : PT X a (tT G Fa)) : PT X (.UnaryOp .Not a pos) (tT G (fNot Fa)) := PT_imp (pt_not ha) fun σ H Q ⟨w, e, s, I, h⟩ => ⟨w, e, s, I, holds_imp (holds_bind h) fun d s1 h1 w1 H1 I1 x1 => h1 w1 H1 I1 x1⟩
end
/-- .. as values -/
@[simp] def fAndV (Fa Fb : FE) : FE := fun e s => (fB Fa e s).bind fun a s1 => if a then Fb e s1 else .ok (.bool false) s1
@[simp] def fOrV (Fa Fb : FE) : FE := fun e s => (fB Fa e s).bind fun a s1 => if a then .ok (.bool true) s1 else Fb e s1
@[simp] def fNotV (Fa : FE) : FE := fun e s => (fB Fa e s).bind fun a s1 => .ok (.bool (!a)) s1
section
variable {a b : Expr} {rest : List Expr} {pos : Pos} {Fa Fb : FE}
theorem de_one {op : BoolOp} (h : PE X a (tE G Fa)) : PE X (.BoolOp op [a] pos) (tE G Fa) := pe_one h
theorem de_and (ha : PE X a (tE G Fa)) (hb : PE X (.BoolOp .And (b :: rest) pos) (tE G Fb)) : PE X (.BoolOp .And (a :: b :: rest) pos) (tE G (fAndV Fa Fb)) := PE_imp (pe_and ha hb) fun σ H Q ⟨w, e, s, I, h⟩ => by
  refine ⟨w, e, s, I, holds_imp (holds_bind (holds_bind h)) fun d s1 h1 w1 x H1 I1 x1 r1 => ?_⟩
  split at h1
  · rename_i c
    refine ⟨c, rp_bool r1, ?_⟩
    cases c with
    | true => exact iteT ⟨w1, e, s1, I1, holds_imp h1 fun _ _ h2 => kE_ext x1 h2⟩
    | false => exact iteF (h1 w1 _ H1 I1 x1 rp_b)
  · exact h1.elim
theorem de_or (ha : PE X a (tE G Fa)) (hb : PE X (.BoolOp .Or (b :: rest) pos) (tE G Fb)) : PE X (.BoolOp .Or (a :: b :: rest) pos) (tE G (fOrV Fa Fb)) := PE_imp (pe_or ha hb) fun σ H Q ⟨w, e, s, I, h⟩ => by
  refine ⟨w, e, s, I, holds_imp (holds_bind (holds_bind h)) fun d s1 h1 w1 x H1 I1 x1 r1 => ?_⟩
  split at h1
  · rename_i c
    refine ⟨c, rp_bool r1, ?_⟩
    cases c with
    | false => exact iteF ⟨w1, e, s1, I1, holds_imp h1 fun _ _ h2 => kE_ext x1 h2⟩
    | true => exact iteT (h1 w1 _ H1 I1 x1 rp_b)
  · exact h1.elim
theorem de_not (ha : PE X a (tE G Fa)) : PE X (.UnaryOp .Not a pos) (tE G (fNotV Fa)) := PE_imp (pe_not ha) fun σ H Q ⟨w, e, s, I, h⟩ => by
  refine ⟨w, e, s, I, holds_imp (holds_bind (holds_bind h)) fun d s1 h1 w1 x H1 I1 x1 r1 => ?_⟩
  split at h1
  · rename_i c
    exact ⟨c, rp_bool r1, h1 w1 _ H1 I1 x1 rp_b⟩
  · exact h1.elim
@[simp] def fIf (Fc : FT) (Fa Fb : FE) : FE := fun e s => (Fc e s).bind fun c s1 => if c then Fa e s1 else Fb e s1
theorem de_if {c : Expr} {Fc : FT} (hc : PT X c (tT G Fc)) (ha : PE X a (tE G Fa)) (hb : PE X b (tE G Fb)) : PE X (.IfExp c a b pos) (tE G (fIf Fc Fa Fb)) := PE_imp (pe_ifExp hc ha hb) fun σ H Q ⟨w, e, s, I, h⟩ => by
  refine ⟨w, e, s, I, holds_imp (holds_bind h) fun d s1 h1 w1 H1 I1 x1 => ?_⟩
  cases d with
  | true => exact iteT ⟨w1, e, s1, I1, holds_imp h1 fun _ _ h2 => kE_ext x1 h2⟩
  | false => exact iteF ⟨w1, e, s1, I1, holds_imp h1 fun _ _ h2 => kE_ext x1 h2⟩
end

/-! ### argument lists, displays -/
@[simp] def fNil : FA := fun _ s => .ok [] s
@[simp] def fCons (Fa : FE) (Fr : FA) : FA := fun e s => (Fa e s).bind fun a s1 => (Fr e s1).bind fun r s2 => .ok (a :: r) s2
theorem da_nil : PA X [] (tA G fNil) := PA_imp pa_nil fun σ H Q ⟨w, e, s, I, h⟩ => h w [] H I .refl RpL.nil
theorem da_cons {a : Expr} {r : List Expr} {Fa : FE} {Fr : FA} (ha : PE X a (tE G Fa)) (hr : PA X r (tA G Fr)) (hs : starEach (a :: r) X.env = (false, eval a X.env) :: starEach r X.env := by rfl) : PA X (a :: r) (tA G (fCons Fa Fr)) :=
  PA_imp (pa_cons ha hr hs) fun σ H Q ⟨w, e, s, I, h⟩ => by
    refine ⟨w, e, s, I, holds_imp (holds_bind h) fun a s1 h1 w1 x H1 I1 x1 r1 => ?_⟩
    refine ⟨w1, e, s1, I1, holds_imp (holds_bind h1) fun as s2 h2 w2 xs H2 I2 x2 r2 => ?_⟩
    exact h2 w2 (x :: xs) H2 I2 (x1.trans x2) (RpL.cons (x2.rp r1) r2)
@[simp] def cLen {α : Type} (ds : List α) : Bool := decide (ds.length ≤ sizeLine)
@[simp] def fTup (Fs : FA) : FE := fun e s => (Fs e s).bind fun ds s1 => if cLen ds then .ok (.tuple ds) s1 else .bad
@[simp] def fLst (Fs : FA) : FE := fun e s => (Fs e s).bind fun ds s1 => if cLen ds then .ok (.list ds) s1 else .bad
theorem new_list {w : Wd} {e : Lcs} {s : Sto} {σ : L2.St} {H : Hp} {Q : VK} {ds : List Dat} {vs : List V} {p : Addr} (I : IE G w e s σ H) (r : RpL G.K w.as (Fz w H) ds vs) (h : kE G w e σ H Q (.list ds) s) (hp : H p = none) : Q (.ref p) (upd H p (.lst vs)) :=
  h w _ _ (I.new hp) (I.newE hp) (by
    simp only [Rp]
    exact ⟨p, vs, rfl, I.newF hp, (I.newE hp).rpl r⟩)
theorem new_tuple {w : Wd} {e : Lcs} {s : Sto} {σ : L2.St} {H : Hp} {Q : VK} {ds : List Dat} {vs : List V} {p : Addr} (I : IE G w e s σ H) (r : RpL G.K w.as (Fz w H) ds vs) (h : kE G w e σ H Q (.tuple ds) s) (hp : H p = none) : Q (.ref p) (upd H p (.tup vs)) :=
  h w _ _ (I.new hp) (I.newE hp) (by
    simp only [Rp]
    exact ⟨p, vs, rfl, .inl (.inl (I.newF hp)), (I.newE hp).rpl r⟩)
section
variable {es : List Expr} {pos : Pos} {Fs : FA}
theorem de_tup {x1} (h : PA X es (tA G Fs)) : PE X (.Tuple es x1 pos) (tE G (fTup Fs)) := PE_imp (pe_tup h) fun σ H Q ⟨w, e, s, I, h⟩ => by
  refine ⟨w, e, s, I, holds_imp (holds_bind h) fun ds s1 h1 w1 xs H1 I1 x1 r1 => ?_⟩
  split at h1
  · rename_i c
    exact ⟨by rw [r1.length]; exact of_decide_eq_true c, fun p hp => new_tuple I1 r1 (kE_ext x1 h1) hp⟩
  · exact h1.elim
theorem de_lst (h : PA X es (tA G Fs)) : PE X (.List es pos) (tE G (fLst Fs)) := PE_imp (pe_lst h) fun σ H Q ⟨w, e, s, I, h⟩ => by
  refine ⟨w, e, s, I, holds_imp (holds_bind h) fun ds s1 h1 w1 xs H1 I1 x1 r1 => ?_⟩
  split at h1
  · rename_i c
    exact ⟨by rw [r1.length]; exact of_decide_eq_true c, fun p hp => new_list I1 r1 (kE_ext x1 h1) hp⟩
  · exact h1.elim
end

/-! ### subscripts -/
@[simp] def gIx : Dat → Dat → Sto → Res Dat := fun a b s => match b with
  | .int i => match a with
    | .list ds => match atI ds i with
      | some d => .ok d s
      | none => .bad
    | .tuple ds => match atI ds i with
      | some d => .ok d s
      | none => .bad
    | .str z => if z.length ≤ sizeLine then match atI z.cps.toList i with
      | some c => .ok (.str ⟨#[c]⟩) s
      | none => .bad else .bad
    | .dict [(.int n, .none)] => match s[n.toNat]? with
      | some (.ls ds) => match atI ds i with
        | some d => .ok d s
        | none => .bad
      | none => .bad
    | _ => .bad
  | _ => .bad
theorem atI_rp {K as F} {ds : List Dat} {vs : List V} {i : Int} {d : Dat} (r : RpL K as F ds vs) (h : atI ds i = some d) : ∃ v, atI vs i = some v ∧ Rp K as F d v := by
  unfold atI at h ⊢
  rw [r.length]
  cases e : ixN ds.length i with
  | none => rw [e] at h; cases h
  | some j =>
    rw [e] at h
    have h' : ds[j]? = some d := h
    obtain ⟨v, h1, h2⟩ := r.get' h'
    exact ⟨v, h1, h2⟩
theorem opIx : OpD G (rIx G.K) gIx := by
  intro w e s σ H x y a b Q I ra rb h
  unfold gIx at h
  split at h
  · rename_i i
    split at h
    · rename_i ds
      obtain ⟨p, xs, rfl, q, r⟩ := rp_list ra
      split at h
      · rename_i d hd
        obtain ⟨v, h1, h2⟩ := atI_rp r hd
        exact .inl ⟨p, xs, i, v, rfl, rp_int rb, .inl (.inl (Fz_sub _ _ q)), h1, flat_ok I h h2⟩
      · exact h.elim
    · rename_i ds
      obtain ⟨p, xs, rfl, q, r⟩ := rp_tuple ra
      split at h
      · rename_i d hd
        obtain ⟨v, h1, h2⟩ := atI_rp r hd
        exact .inr (.inl ⟨p, xs, i, v, rfl, rp_int rb, sqT_mono Fz_sub q, h1, flat_ok I h h2⟩)
      · exact h.elim
    · rename_i z
      split at h
      · rename_i hz
        split at h
        · rename_i c hc
          exact .inr (.inr ⟨z, i, c, rp_str ra, rp_int rb, hz, hc, flat_ok I h rp_s⟩)
        · exact h.elim
      · exact h.elim
    · rename_i n
      split at h
      · rename_i ds hs
        split at h
        · rename_i d hd
          have ra' : ∃ a, x = .ref a ∧ w.as[n.toNat]? = some a := by simpa [Rp] using ra
          obtain ⟨p, rfl, hp⟩ := ra'
          obtain ⟨a', vs, e1, e2, e3⟩ := I.cells _ _ hs
          rw [hp] at e1; cases e1
          obtain ⟨v, h1, h2⟩ := atI_rp e3 hd
          exact .inl ⟨p, vs, i, v, rfl, rp_int rb, .inl (.inl e2), h1, flat_ok I h h2⟩
        · exact h.elim
      · exact h.elim
    · exact h.elim
  · exact h.elim
theorem de_ix {a b : Expr} {pos : Pos} {Fa Fb : FE} (hK : X.K = G.K) (ha : PE X a (tE G Fa)) (hb : PE X b (tE G Fb)) (hs : PlainIx b := by exact fun _ _ => rfl) : PE X (.Subscript a b pos) (tE G (fBin gIx Fa Fb)) :=
  PE_imp (pe_ix ix_seq ha hb hs) fun _ _ _ h => tOp_of (by rw [hK]; exact opIx) h
end
end DL

namespace DL
open PySem PySem.Spec PyProof.Rows L2
section
variable {X : Cx} {G : Gx}

/-! ### + -/
@[simp] def gAdd : Dat → Dat → Sto → Res Dat := fun a b s => match a, b with
  | .int i, .int j => .ok (.int (i + j)) s
  | .str x, .str y => if x.length + y.length ≤ sizeLine then .ok (.str (x ++ y)) s else .bad
  | .list xs, .list ys => if xs.length + ys.length ≤ sizeLine then .ok (.list (xs ++ ys)) s else .bad
  | .tuple xs, .tuple ys => if xs.length + ys.length ≤ sizeLine then .ok (.tuple (xs ++ ys)) s else .bad
  | _, _ => .bad
def rAdd (K : PySem.W.Frag) : R2 := fun x y H Q => rI0 (fun i j => .int (i + j)) x y H Q ∨ (∃ i j, x = .str i ∧ y = .str j ∧ i.length + j.length ≤ sizeLine ∧ Q (.str (i ++ j)) H) ∨ rCat x y H Q ∨ rCatA K x y H Q
theorem op_addA : OpR X (binaryOp .Add) (rAdd X.K) := op_add.or (op_add_str.or (op_cat.or op_catA))
theorem opAdd : OpD G (rAdd G.K) gAdd := by
  intro w e s σ H x y a b Q I ra rb h
  unfold gAdd at h
  split at h
  · rename_i i j
    exact .inl ⟨i, j, rp_int ra, rp_int rb, flat_ok I h rp_i⟩
  · rename_i i j
    split at h
    · rename_i c
      exact .inr (.inl ⟨i, j, rp_str ra, rp_str rb, c, flat_ok I h rp_s⟩)
    · exact h.elim
  · split at h
    · rename_i c
      obtain ⟨p, xs, rfl, hp, rx⟩ := rp_list ra
      obtain ⟨q, ys, rfl, hq, ry⟩ := rp_list rb
      exact .inr (.inr (.inl ⟨p, q, xs, ys, rfl, rfl, Fz_sub _ _ hp, Fz_sub _ _ hq, by rw [rx.length, ry.length]; exact c, fun l hl => new_list I (rx.append ry) h hl⟩))
    · exact h.elim
  · split at h
    · rename_i c
      obtain ⟨p, xs, rfl, hp, rx⟩ := rp_tuple ra
      obtain ⟨q, ys, rfl, hq, ry⟩ := rp_tuple rb
      refine .inr (.inr (.inr ⟨p, q, xs, ys, rfl, rfl, sqT_mono Fz_sub hp, sqT_mono Fz_sub hq, by rw [rx.length, ry.length]; exact c, fun z => ?_, fun _ z => ?_, fun _ _ l hl => new_tuple I (rx.append ry) h hl⟩))
      · refine flat_ok I h ?_
        have e : xs = [] := z
        subst e
        have e2 := rx.length
        have e3 := List.eq_nil_of_length_eq_zero e2.symm
        subst e3
        exact rb
      · refine flat_ok I h ?_
        have e : ys = [] := z
        subst e
        have e2 := ry.length
        have e3 := List.eq_nil_of_length_eq_zero e2.symm
        subst e3
        rw [List.append_nil]
        exact ra
    · exact h.elim
  · exact h.elim
theorem de_add {a b : Expr} {pos : Pos} {Fa Fb : FE} (hK : X.K = G.K) (ha : PE X a (tE G Fa)) (hb : PE X b (tE G Fb)) : PE X (.BinOp a .Add b pos) (tE G (fBin gAdd Fa Fb)) := de_bin op_addA (by rw [hK]; exact opAdd) ha hb

/-! ### slices -/
abbrev FO := Lcs → Sto → Res (Option Int)
def kO (G : Gx) (w : Wd) (e : Lcs) (σ : L2.St) (H : Hp) (Q : Option Int → Hp → Prop) : Option Int → Sto → Prop := fun b s' => ∀ w' H', IE G w' e s' σ H' → EExt w H w' H' → Q b H'
def tO (G : Gx) (F : FO) : L2.TO := fun σ H Q => ∃ w e s, IE G w e s σ H ∧ (F e s).holds (kO G w e σ H Q)
@[simp] def fNo : FO := fun _ s => .ok none s
@[simp] def fSome (Fa : FE) : FO := fun e s => (Fa e s).bind fun d s1 => match d with
  | .int i => .ok (some i) s1
  | _ => .bad
theorem PO_imp {a : Option Expr} {t t' : L2.TO} (h : PO X a t) (k : ∀ σ H Q, t' σ H Q → t σ H Q) : PO X a t' := ⟨fun pins s σ H Q I q => h.run pins s σ H Q I (k _ _ _ q)⟩
theorem do_none : PO X none (tO G fNo) := PO_imp po_none fun σ H Q ⟨w, e, s, I, h⟩ => h w H I .refl
theorem do_some {a : Expr} {Fa : FE} (ha : PE X a (tE G Fa)) : PO X (some a) (tO G (fSome Fa)) := PO_imp (po_some ha) fun σ H Q ⟨w, e, s, I, h⟩ => by
  refine ⟨w, e, s, I, holds_imp (holds_bind h) fun d s1 h1 w1 x H1 I1 x1 r1 => ?_⟩
  split at h1
  · rename_i i
    exact ⟨i, rp_int r1, h1 w1 H1 I1 x1⟩
  · exact h1.elim
def cutD (xs : List Dat) (lo hi : Option Int) : List Dat := (xs.drop (HT.sIx xs.length 0 lo)).take (HT.sIx xs.length xs.length hi - HT.sIx xs.length 0 lo)
@[simp] def gSl : Dat → Option Int → Option Int → Sto → Res Dat := fun d lo hi s => match d with
  | .list ds => .ok (.list (cutD ds lo hi)) s
  | .tuple ds => .ok (.tuple (cutD ds lo hi)) s
  | .str z => if z.length ≤ sizeLine then .ok (.str (cutS z lo hi)) s else .bad
  | .dict [(.none, .list ds)] => .ok (.list (cutD ds lo hi)) s
  | _ => .bad
@[simp] def fSl (Fa : FE) (Fl Fh : FO) : FE := fun e s => (Fa e s).bind fun d s1 => (Fl e s1).bind fun l s2 => (Fh e s2).bind fun u s3 => gSl d l u s3
def rSl (K : PySem.W.Frag) : V → Option Int → Option Int → Hp → VK → Prop := fun x lo hi H Q => rSlL K x lo hi H Q ∨ rSlA K x lo hi H Q ∨ rSlS x lo hi H Q
theorem sl_all : SlR X (rSl X.K) := sl_list.or (sl_tupA.or sl_str)
theorem cut_rp {K as F} {ds : List Dat} {vs : List V} (lo hi : Option Int) (r : RpL K as F ds vs) : RpL K as F (cutD ds lo hi) (cutV vs lo hi) := by
  unfold cutD cutV
  rw [r.length]
  exact (r.drop _).take _
theorem rpl_ints {K as F} : ∀ ns : List Int, RpL K as F (ns.map PyData.int) (ns.map V.int)
  | [] => RpL.nil
  | n :: ns => RpL.cons rp_i (rpl_ints ns)
theorem cut_whole {xs : List Dat} {lo hi : Option Int} (h1 : HT.sIx xs.length 0 lo = 0) (h2 : HT.sIx xs.length xs.length hi = xs.length) : cutD xs lo hi = xs := by
  unfold cutD
  rw [h1, h2]
  simp
theorem opSl {w : Wd} {e : Lcs} {s : Sto} {σ : L2.St} {H : Hp} {Q : VK} {d : Dat} {x : V} {lo hi : Option Int} (I : IE G w e s σ H) (r : Rp G.K w.as (Fz w H) d x) (h : (gSl d lo hi s).holds (kE G w e σ H Q)) : rSl G.K x lo hi H Q := by
  unfold gSl at h
  split at h
  · obtain ⟨p, xs, rfl, hp, rx⟩ := rp_list r
    exact .inl ⟨p, xs, rfl, .inl (.inl (Fz_sub _ _ hp)), fun l hl => new_list I (cut_rp lo hi rx) h hl⟩
  · rename_i ds
    obtain ⟨p, xs, rfl, hp, rx⟩ := rp_tuple r
    refine .inr (.inl ⟨p, xs, rfl, sqT_mono Fz_sub hp, fun z => ?_, fun _ l hl => new_tuple I (cut_rp lo hi rx) h hl⟩)
    refine flat_ok I h ?_
    rw [rx.length] at z
    rw [cut_whole z.1 z.2]
    exact r
  · split at h
    · rename_i c
      exact .inr (.inr ⟨_, rp_str r, c, flat_ok I h rp_s⟩)
    · exact h.elim
  · rename_i ds
    have r' : ∃ (a : Addr) (ns : List Int), x = .ref a ∧ ds = ns.map PyData.int ∧ SqL G.K (Fz w H) a (ns.map V.int) := by simpa [Rp] using r
    obtain ⟨p, ns, rfl, rfl, q⟩ := r'
    exact .inl ⟨p, _, rfl, sqL_mono Fz_sub q, fun l hl => new_list I (cut_rp lo hi (rpl_ints ns)) h hl⟩
  · exact h.elim
theorem de_slice {a : Expr} {lo hi : Option Expr} {pos p2 : Pos} {Fa : FE} {Fl Fh : FO} (hK : X.K = G.K) (ha : PE X a (tE G Fa)) (hl : PO X lo (tO G Fl)) (hh : PO X hi (tO G Fh)) : PE X (.Subscript a (.Slice lo hi none p2) pos) (tE G (fSl Fa Fl Fh)) :=
  PE_imp (pe_slice sl_all ha hl hh) fun σ H Q ⟨w, e, s, I, h⟩ => by
    refine ⟨w, e, s, I, holds_imp (holds_bind h) fun d s1 h1 w1 x H1 I1 x1 r1 => ?_⟩
    refine ⟨w1, e, s1, I1, holds_imp (holds_bind h1) fun l s2 h2 w2 H2 I2 x2 => ?_⟩
    refine ⟨w2, e, s2, I2, holds_imp (holds_bind h2) fun u s3 h3 w3 H3 I3 x3 => ?_⟩
    rw [hK]
    exact opSl I3 ((x2.trans x3).rp r1) (holds_imp h3 fun d s4 h4 => kE_ext (x1.trans (x2.trans x3)) h4)

/-! ### calls of built-ins -/
@[simp] def fCall (g : List Dat → Sto → Res Dat) (Fs : FA) : FE := fun e s => (Fs e s).bind fun ds s1 => g ds s1
theorem de_callB {x : Str} {p pos : Pos} {a : Expr} {es : List Expr} {id : String} {r : List V → Hp → VK → Prop} {g : List Dat → Sto → Res Dat} {Fs : FA} (hc : CallR X (.builtin id) r) (hg : CallD G r g) (hm : X.mg x = none) (ha : PA X (a :: es) (tA G Fs)) (hgl : Gl X x := by rfl)
    (hv : bootBuiltins x = some (.builtin id) := by decide +kernel) (hn : x ≠ "__name__" := by decide) (hdb : (x == ("__debug__" : Str)) = false := by decide)
    (he : starEach (a :: es) X.env = (false, eval a X.env) :: starEach es X.env := by rfl) (hpl : (backTo pos (starEach es X.env)).any (·.1) = false := by rfl) : PE X (.Call (.Name x p) (a :: es) [] pos) (tE G (fCall g Fs)) :=
  PE_imp (pe_callB hc hgl hm hv ha hn hdb he hpl) fun σ H Q ⟨w, e, s, I, h⟩ => ⟨w, e, s, I, holds_imp (holds_bind h) fun ds s1 h1 w1 vs H1 I1 x1 r1 => hg w1 e s1 σ H1 vs ds Q I1 r1 (holds_imp h1 fun d s2 h2 => kE_ext x1 h2)⟩
theorem de_callTy {x : Str} {p pos : Pos} {a : Expr} {es : List Expr} {id : String} {r : List V → Hp → VK → Prop} {g : List Dat → Sto → Res Dat} {Fs : FA} (hc : CallR X (.type id) r) (hg : CallD G r g) (hm : X.mg x = none) (ha : PA X (a :: es) (tA G Fs)) (hgl : Gl X x := by rfl)
    (hv : bootBuiltins x = some (.type id) := by decide +kernel) (hn : x ≠ "__name__" := by decide) (hdb : (x == ("__debug__" : Str)) = false := by decide)
    (he : starEach (a :: es) X.env = (false, eval a X.env) :: starEach es X.env := by rfl) (hpl : (backTo pos (starEach es X.env)).any (·.1) = false := by rfl) : PE X (.Call (.Name x p) (a :: es) [] pos) (tE G (fCall g Fs)) :=
  PE_imp (pe_callTy hc hgl hm hv ha hn hdb he hpl) fun σ H Q ⟨w, e, s, I, h⟩ => ⟨w, e, s, I, holds_imp (holds_bind h) fun ds s1 h1 w1 vs H1 I1 x1 r1 => hg w1 e s1 σ H1 vs ds Q I1 r1 (holds_imp h1 fun d s2 h2 => kE_ext x1 h2)⟩
theorem rpl1 {K as F} {d : Dat} {vs : List V} (r : RpL K as F [d] vs) : ∃ v, vs = [v] ∧ Rp K as F d v := by
  cases vs with
  | nil => simp [RpL] at r
  | cons v t =>
    cases t with
    | nil => exact ⟨v, rfl, by simpa [RpL] using r⟩
    | cons _ _ => simp [RpL] at r
theorem rpl2 {K as F} {d d2 : Dat} {vs : List V} (r : RpL K as F [d, d2] vs) : ∃ v v2, vs = [v, v2] ∧ Rp K as F d v ∧ Rp K as F d2 v2 := by
  cases vs with
  | nil => simp [RpL] at r
  | cons v t =>
    simp only [RpL] at r
    obtain ⟨v2, rfl, r2⟩ := rpl1 r.2
    exact ⟨v, v2, rfl, r.1, r2⟩
/-- abs -/
@[simp] def gAbs : List Dat → Sto → Res Dat := fun ds s => match ds with
  | [.int i] => .ok (.int (if i < 0 then -i else i)) s
  | _ => .bad
theorem cdAbs : CallD G (fun xs H Q => ∃ i, xs = [.int i] ∧ Q (.int (if i < 0 then -i else i)) H) gAbs := by
  intro w e s σ H xs ds Q I r h
  unfold gAbs at h
  split at h
  · obtain ⟨v, rfl, r1⟩ := rpl1 r
    exact ⟨_, by rw [rp_int r1], flat_ok I h rp_i⟩
  · exact h.elim
theorem de_abs {p pos : Pos} {a : Expr} {es : List Expr} {Fs : FA} (hm : X.mg "abs" = none) (ha : PA X (a :: es) (tA G Fs)) (hgl : Gl X "abs" := by rfl) (he : starEach (a :: es) X.env = (false, eval a X.env) :: starEach es X.env := by rfl) (hpl : (backTo pos (starEach es X.env)).any (·.1) = false := by rfl) :
    PE X (.Call (.Name "abs" p) (a :: es) [] pos) (tE G (fCall gAbs Fs)) := de_callB call_abs cdAbs hm ha (hgl := hgl) (he := he) (hpl := hpl)
/-- int(n), int(flag) -/
@[simp] def gInt : List Dat → Sto → Res Dat := fun ds s => match ds with
  | [.int i] => .ok (.int i) s
  | [.bool k] => .ok (.int (if k then 1 else 0)) s
  | _ => .bad
theorem cdInt : CallD G (fun xs H Q => (∃ i, xs = [V.int i] ∧ Q (.int i) H) ∨ ∃ k, xs = [V.bl k] ∧ Q (.int (if k then 1 else 0)) H) gInt := by
  intro w e s σ H xs ds Q I r h
  unfold gInt at h
  split at h
  · obtain ⟨v, rfl, r1⟩ := rpl1 r
    exact .inl ⟨_, by rw [rp_int r1], flat_ok I h rp_i⟩
  · obtain ⟨v, rfl, r1⟩ := rpl1 r
    exact .inr ⟨_, by rw [rp_bool r1], flat_ok I h rp_i⟩
  · exact h.elim
theorem de_intOf {p pos : Pos} {a : Expr} {es : List Expr} {Fs : FA} (hm : X.mg "int" = none) (ha : PA X (a :: es) (tA G Fs)) (hgl : Gl X "int" := by rfl) (he : starEach (a :: es) X.env = (false, eval a X.env) :: starEach es X.env := by rfl) (hpl : (backTo pos (starEach es X.env)).any (·.1) = false := by rfl) :
    PE X (.Call (.Name "int" p) (a :: es) [] pos) (tE G (fCall gInt Fs)) := de_callTy call_int1 cdInt hm ha (hgl := hgl) (he := he) (hpl := hpl)
/-- len -/
@[simp] def gLen : List Dat → Sto → Res Dat := fun ds s => match ds with
  | [.list xs] => .ok (.int xs.length) s
  | [.tuple xs] => .ok (.int xs.length) s
  | [.str z] => if z.length ≤ sizeLine then .ok (.int z.length) s else .bad
  | _ => .bad
theorem cdLen : CallD G (fun xs H Q => ∃ x n, xs = [x] ∧ LenV G.K x H n ∧ Q (.int n) H) gLen := by
  intro w e s σ H xs ds Q I r h
  unfold gLen at h
  split at h
  · obtain ⟨v, rfl, r1⟩ := rpl1 r
    obtain ⟨p, ys, rfl, hp, rx⟩ := rp_list r1
    refine ⟨.ref p, _, rfl, .inl ⟨ys, .inl (.inl (Fz_sub _ _ hp)), rfl⟩, ?_⟩
    rw [rx.length]
    exact flat_ok I h rp_i
  · obtain ⟨v, rfl, r1⟩ := rpl1 r
    obtain ⟨p, ys, rfl, hp, rx⟩ := rp_tuple r1
    refine ⟨.ref p, _, rfl, .inr ⟨ys, sqT_mono Fz_sub hp, rfl⟩, ?_⟩
    rw [rx.length]
    exact flat_ok I h rp_i
  · split at h
    · rename_i c
      obtain ⟨v, rfl, r1⟩ := rpl1 r
      rw [rp_str r1]
      exact ⟨_, _, rfl, ⟨c, rfl⟩, flat_ok I h rp_i⟩
    · exact h.elim
  · exact h.elim
theorem de_len {p pos : Pos} {a : Expr} {es : List Expr} {Fs : FA} (hK : X.K = G.K) (hm : X.mg "len" = none) (ha : PA X (a :: es) (tA G Fs)) (hgl : Gl X "len" := by rfl) (he : starEach (a :: es) X.env = (false, eval a X.env) :: starEach es X.env := by rfl) (hpl : (backTo pos (starEach es X.env)).any (·.1) = false := by rfl) :
    PE X (.Call (.Name "len" p) (a :: es) [] pos) (tE G (fCall gLen Fs)) := de_callB call_len (by rw [hK]; exact cdLen) hm ha (hgl := hgl) (he := he) (hpl := hpl)
/-- tuple(xs), list(xs) -/
@[simp] def gTupOf : List Dat → Sto → Res Dat := fun ds s => match ds with
  | [.list xs] => .ok (.tuple xs) s
  | [.tuple xs] => .ok (.tuple xs) s
  | _ => .bad
theorem cdTup : CallD G (fun xs H Q => ∃ p ys, xs = [V.ref p] ∧ ((SqL G.K H p ys ∧ ∀ l, H l = none → Q (.ref l) (upd H l (.tup ys))) ∨ (SqT G.K H p ys ∧ Q (.ref p) H))) gTupOf := by
  intro w e s σ H xs ds Q I r h
  unfold gTupOf at h
  split at h
  · obtain ⟨v, rfl, r1⟩ := rpl1 r
    obtain ⟨p, ys, rfl, hp, rx⟩ := rp_list r1
    exact ⟨p, ys, rfl, .inl ⟨.inl (.inl (Fz_sub _ _ hp)), fun l hl => new_tuple I rx h hl⟩⟩
  · obtain ⟨v, rfl, r1⟩ := rpl1 r
    obtain ⟨p, ys, rfl, hp, rx⟩ := rp_tuple r1
    exact ⟨p, ys, rfl, .inr ⟨sqT_mono Fz_sub hp, flat_ok I h r1⟩⟩
  · exact h.elim
theorem de_tupOf {p pos : Pos} {a : Expr} {es : List Expr} {Fs : FA} (hK : X.K = G.K) (hm : X.mg "tuple" = none) (ha : PA X (a :: es) (tA G Fs)) (hgl : Gl X "tuple" := by rfl) (he : starEach (a :: es) X.env = (false, eval a X.env) :: starEach es X.env := by rfl) (hpl : (backTo pos (starEach es X.env)).any (·.1) = false := by rfl) :
    PE X (.Call (.Name "tuple" p) (a :: es) [] pos) (tE G (fCall gTupOf Fs)) := de_callTy call_tuple_of (by rw [hK]; exact cdTup) hm ha (hgl := hgl) (he := he) (hpl := hpl)
@[simp] def gLstOf : List Dat → Sto → Res Dat := fun ds s => match ds with
  | [.list xs] => .ok (.list xs) s
  | [.tuple xs] => .ok (.list xs) s
  | _ => .bad
theorem cdLst : CallD G (fun xs H Q => ∃ p ys, xs = [V.ref p] ∧ (SqL G.K H p ys ∨ SqT G.K H p ys) ∧ ∀ l, H l = none → Q (.ref l) (upd H l (.lst ys))) gLstOf := by
  intro w e s σ H xs ds Q I r h
  unfold gLstOf at h
  split at h
  · obtain ⟨v, rfl, r1⟩ := rpl1 r
    obtain ⟨p, ys, rfl, hp, rx⟩ := rp_list r1
    exact ⟨p, ys, rfl, .inl (.inl (.inl (Fz_sub _ _ hp))), fun l hl => new_list I rx h hl⟩
  · obtain ⟨v, rfl, r1⟩ := rpl1 r
    obtain ⟨p, ys, rfl, hp, rx⟩ := rp_tuple r1
    exact ⟨p, ys, rfl, .inr (sqT_mono Fz_sub hp), fun l hl => new_list I rx h hl⟩
  · exact h.elim
theorem de_lstOf {p pos : Pos} {a : Expr} {es : List Expr} {Fs : FA} (hK : X.K = G.K) (hm : X.mg "list" = none) (ha : PA X (a :: es) (tA G Fs)) (hgl : Gl X "list" := by rfl) (he : starEach (a :: es) X.env = (false, eval a X.env) :: starEach es X.env := by rfl) (hpl : (backTo pos (starEach es X.env)).any (·.1) = false := by rfl) :
    PE X (.Call (.Name "list" p) (a :: es) [] pos) (tE G (fCall gLstOf Fs)) := de_callTy call_list_of (by rw [hK]; exact cdLst) hm ha (hgl := hgl) (he := he) (hpl := hpl)
/-- max, min of a list of ints; all, any of a list of truth values; sum -/
@[simp] def ints? : List Dat → Option (List Int)
  | [] => some []
  | .int i :: r => (ints? r).map (i :: ·)
  | _ :: _ => none
@[simp] def bools? : List Dat → Option (List Bool)
  | [] => some []
  | .bool i :: r => (bools? r).map (i :: ·)
  | _ :: _ => none
theorem ints_vals {K as F} : ∀ {ds : List Dat} {ns : List Int} {vs : List V}, ints? ds = some ns → RpL K as F ds vs → vs = ns.map V.int
  | [], _, [], h, _ => by simp [ints?] at h; subst h; rfl
  | d :: ds, ns, v :: vs, h, r => by
    simp only [RpL] at r
    cases d with
    | int i =>
      simp only [ints?, Option.map_eq_some_iff] at h
      obtain ⟨m, hm, rfl⟩ := h
      rw [rp_int r.1, ints_vals hm r.2]; rfl
    | _ => simp [ints?] at h
  | [], _, _ :: _, _, h => by simp [RpL] at h
  | _ :: _, _, [], _, h => by simp [RpL] at h
theorem bools_vals {K as F} : ∀ {ds : List Dat} {ns : List Bool} {vs : List V}, bools? ds = some ns → RpL K as F ds vs → vs = ns.map V.bl
  | [], _, [], h, _ => by simp [bools?] at h; subst h; rfl
  | d :: ds, ns, v :: vs, h, r => by
    simp only [RpL] at r
    cases d with
    | bool i =>
      simp only [bools?, Option.map_eq_some_iff] at h
      obtain ⟨m, hm, rfl⟩ := h
      rw [rp_bool r.1, bools_vals hm r.2]; rfl
    | _ => simp [bools?] at h
  | [], _, _ :: _, _, h => by simp [RpL] at h
  | _ :: _, _, [], _, h => by simp [RpL] at h
def maxL : List Int → Int
  | [] => 0
  | [a] => a
  | a :: b :: r => if a < maxL (b :: r) then maxL (b :: r) else a
def minL : List Int → Int
  | [] => 0
  | [a] => a
  | a :: b :: r => if minL (b :: r) < a then minL (b :: r) else a
theorem maxL_is : ∀ {ns : List Int} {m : Int}, m ∈ ns → (∀ y, y ∈ ns → y ≤ m) → maxL ns = m
  | [a], m, h, _ => by simp at h; simp [maxL, h]
  | a :: b :: r, m, h, k => by
    unfold maxL
    have ha := k a (by simp)
    by_cases e : m ∈ b :: r
    · have ih := maxL_is (ns := b :: r) e fun y hy => k y (List.mem_cons_of_mem _ hy)
      rw [ih]; split <;> omega
    · have em : m = a := by
        rcases List.mem_cons.mp h with q | q
        · exact q
        · exact absurd q e
      subst em
      split
      · rename_i z
        have : maxL (b :: r) ∈ b :: r := by
          have go : ∀ (l : List Int) (c : Int), maxL (c :: l) ∈ c :: l := by
            intro l
            induction l with
            | nil => intro c; simp [maxL]
            | cons d l ih =>
              intro c
              unfold maxL
              split
              · exact List.mem_cons_of_mem _ (ih d)
              · simp
          exact go r b
        have := k _ (List.mem_cons_of_mem _ this)
        omega
      · rfl
theorem minL_is : ∀ {ns : List Int} {m : Int}, m ∈ ns → (∀ y, y ∈ ns → m ≤ y) → minL ns = m
  | [a], m, h, _ => by simp at h; simp [minL, h]
  | a :: b :: r, m, h, k => by
    unfold minL
    have ha := k a (by simp)
    by_cases e : m ∈ b :: r
    · have ih := minL_is (ns := b :: r) e fun y hy => k y (List.mem_cons_of_mem _ hy)
      rw [ih]; split <;> omega
    · have em : m = a := by
        rcases List.mem_cons.mp h with q | q
        · exact q
        · exact absurd q e
      subst em
      split
      · rename_i z
        have : minL (b :: r) ∈ b :: r := by
          have go : ∀ (l : List Int) (c : Int), minL (c :: l) ∈ c :: l := by
            intro l
            induction l with
            | nil => intro c; simp [minL]
            | cons d l ih =>
              intro c
              unfold minL
              split
              · exact List.mem_cons_of_mem _ (ih d)
              · simp
          exact go r b
        have := k _ (List.mem_cons_of_mem _ this)
        omega
      · rfl
@[simp] def gMax : List Dat → Sto → Res Dat := fun ds s => match ds with
  | [.list xs] => match ints? xs with
    | some ns => if 0 < ns.length then .ok (.int (maxL ns)) s else .bad
    | none => .bad
  | _ => .bad
@[simp] def gMin : List Dat → Sto → Res Dat := fun ds s => match ds with
  | [.list xs] => match ints? xs with
    | some ns => if 0 < ns.length then .ok (.int (minL ns)) s else .bad
    | none => .bad
  | _ => .bad
@[simp] def gSum : List Dat → Sto → Res Dat := fun ds s => match ds with
  | [.list xs] => match ints? xs with
    | some ns => .ok (.int ns.sum) s
    | none => .bad
  | _ => .bad
@[simp] def gAll : List Dat → Sto → Res Dat := fun ds s => match ds with
  | [.list xs] => match bools? xs with
    | some ns => .ok (.bool (ns.all id)) s
    | none => .bad
  | _ => .bad
@[simp] def gAny : List Dat → Sto → Res Dat := fun ds s => match ds with
  | [.list xs] => match bools? xs with
    | some ns => .ok (.bool (ns.any id)) s
    | none => .bad
  | _ => .bad
theorem cdMax : CallD G (rMax G.K) gMax := by
  intro w e s σ H xs ds Q I r h
  unfold gMax at h
  split at h
  · split at h
    · rename_i ns hns
      split at h
      · rename_i c
        obtain ⟨v, rfl, r1⟩ := rpl1 r
        obtain ⟨p, ys, rfl, hp, rx⟩ := rp_list r1
        have e := ints_vals hns rx
        subst e
        exact ⟨p, ns, rfl, .inl (.inl (Fz_sub _ _ hp)), c, fun m hm hle => by
          have := flat_ok I h rp_i
          rw [maxL_is hm hle] at this
          exact this⟩
      · exact h.elim
    · exact h.elim
  · exact h.elim
theorem cdMin : CallD G (rMin G.K) gMin := by
  intro w e s σ H xs ds Q I r h
  unfold gMin at h
  split at h
  · split at h
    · rename_i ns hns
      split at h
      · rename_i c
        obtain ⟨v, rfl, r1⟩ := rpl1 r
        obtain ⟨p, ys, rfl, hp, rx⟩ := rp_list r1
        have e := ints_vals hns rx
        subst e
        exact ⟨p, ns, rfl, .inl (.inl (Fz_sub _ _ hp)), c, fun m hm hle => by
          have := flat_ok I h rp_i
          rw [minL_is hm hle] at this
          exact this⟩
      · exact h.elim
    · exact h.elim
  · exact h.elim
theorem cdAll : CallD G (rAll G.K) gAll := by
  intro w e s σ H xs ds Q I r h
  unfold gAll at h
  split at h
  · split at h
    · rename_i ns hns
      obtain ⟨v, rfl, r1⟩ := rpl1 r
      obtain ⟨p, ys, rfl, hp, rx⟩ := rp_list r1
      have e := bools_vals hns rx
      subst e
      exact ⟨p, ns, rfl, .inl (.inl (Fz_sub _ _ hp)), flat_ok I h rp_b⟩
    · exact h.elim
  · exact h.elim
theorem cdAny : CallD G (rAny G.K) gAny := by
  intro w e s σ H xs ds Q I r h
  unfold gAny at h
  split at h
  · split at h
    · rename_i ns hns
      obtain ⟨v, rfl, r1⟩ := rpl1 r
      obtain ⟨p, ys, rfl, hp, rx⟩ := rp_list r1
      have e := bools_vals hns rx
      subst e
      exact ⟨p, ns, rfl, .inl (.inl (Fz_sub _ _ hp)), flat_ok I h rp_b⟩
    · exact h.elim
  · exact h.elim
section
variable {p pos : Pos} {a : Expr} {es : List Expr} {Fs : FA}
theorem de_max (hc : X.calm = true) (hK : X.K = G.K) (hm : X.mg "max" = none) (ha : PA X (a :: es) (tA G Fs)) (hgl : Gl X "max" := by rfl) (he : starEach (a :: es) X.env = (false, eval a X.env) :: starEach es X.env := by rfl) (hpl : (backTo pos (starEach es X.env)).any (·.1) = false := by rfl) :
    PE X (.Call (.Name "max" p) (a :: es) [] pos) (tE G (fCall gMax Fs)) := de_callB (cr_max hc) (by rw [hK]; exact cdMax) hm ha (hgl := hgl) (he := he) (hpl := hpl)
theorem de_min (hc : X.calm = true) (hK : X.K = G.K) (hm : X.mg "min" = none) (ha : PA X (a :: es) (tA G Fs)) (hgl : Gl X "min" := by rfl) (he : starEach (a :: es) X.env = (false, eval a X.env) :: starEach es X.env := by rfl) (hpl : (backTo pos (starEach es X.env)).any (·.1) = false := by rfl) :
    PE X (.Call (.Name "min" p) (a :: es) [] pos) (tE G (fCall gMin Fs)) := de_callB (cr_min hc) (by rw [hK]; exact cdMin) hm ha (hgl := hgl) (he := he) (hpl := hpl)
theorem de_all (hc : X.calm = true) (hK : X.K = G.K) (hm : X.mg "all" = none) (ha : PA X (a :: es) (tA G Fs)) (hgl : Gl X "all" := by rfl) (he : starEach (a :: es) X.env = (false, eval a X.env) :: starEach es X.env := by rfl) (hpl : (backTo pos (starEach es X.env)).any (·.1) = false := by rfl) :
    PE X (.Call (.Name "all" p) (a :: es) [] pos) (tE G (fCall gAll Fs)) := de_callB (cr_all hc) (by rw [hK]; exact cdAll) hm ha (hgl := hgl) (he := he) (hpl := hpl)
theorem de_any (hc : X.calm = true) (hK : X.K = G.K) (hm : X.mg "any" = none) (ha : PA X (a :: es) (tA G Fs)) (hgl : Gl X "any" := by rfl) (he : starEach (a :: es) X.env = (false, eval a X.env) :: starEach es X.env := by rfl) (hpl : (backTo pos (starEach es X.env)).any (·.1) = false := by rfl) :
    PE X (.Call (.Name "any" p) (a :: es) [] pos) (tE G (fCall gAny Fs)) := de_callB (cr_any hc) (by rw [hK]; exact cdAny) hm ha (hgl := hgl) (he := he) (hpl := hpl)
end
end
end DL

namespace DL
open PySem PySem.Spec PyProof.Rows L2
section
variable {X : Cx} {G : Gx}

/-! ### how the world goes on -/
section
variable {w w' : Wd} {e e2 : Lcs} {s s' : Sto} {σ σ2 : L2.St} {H H' : Hp}
/-- the locals stand, where the rest went on -/
theorem IE.re (I : IE G w e s σ H) (x : EExt w H w' H') (J : IE G w' e2 s' σ2 H') : IE G w' e s' σ H' := by
  refine ⟨I.len, fun i d h => ?_, fun i ds h => ?_, I.inj, J.slen, J.cells, J.nd, J.dis, J.beg, J.o0, J.there, J.keep, J.cfresh⟩
  · obtain ⟨v, h1, h2⟩ := I.slot i d h
    exact ⟨v, h1, x.rp h2⟩
  · obtain ⟨p, vs, h1, h2, h3, h4, h5, h6⟩ := I.own i ds h
    exact ⟨p, vs, h1, by rw [x.ow]; exact h2, h3, h4, by rw [x.own p h2]; exact h5, x.rpl h6⟩
theorem IE.fresh0 (I : IE G w e s σ H) {p : Addr} (hp : H p = none) : G.H0 p = none := by
  cases q : G.H0 p with
  | none => rfl
  | some o =>
    by_cases h : p ∈ G.as0
    · exact absurd hp (I.cellThere (I.beg.mem h))
    · have := I.keep p o q h
      rw [hp] at this; cases this
theorem IE.freshO (I : IE G w e s σ H) {p : Addr} (hp : H p = none) : ¬ w.ow p := fun h => I.there p h hp
theorem IE.freshO0 (I : IE G w e s σ H) {p : Addr} (hp : H p = none) : ¬ G.O0 p := fun h => I.freshO hp (I.o0 p h)
theorem IE.freshA (I : IE G w e s σ H) {p : Addr} (hp : H p = none) : p ∉ w.as := fun h => I.cellThere h hp
/-- no local's own list stands at p -/
def Lone (e : Lcs) (σ : L2.St) (p : Addr) : Prop := ∀ (i : Nat) ds, e[i]? = some (.ow ds) → σ[i]? ≠ some (some (.ref p))
theorem IE.lone (I : IE G w e s σ H) {p : Addr} (hp : H p = none) : Lone e σ p := fun i ds h h2 => by
  obtain ⟨q, vs, h1, _, _, _, h5, _⟩ := I.own i ds h
  rw [h2] at h1; cases h1
  rw [hp] at h5; cases h5
/-- one more place of one's own -/
def Wd.plus (w : Wd) (p : Addr) : Wd := ⟨w.as, fun a => w.ow a ∨ a = p⟩
theorem Fz_plus {p : Addr} {o : HO} (hp : H p = none) : Fz (w.plus p) (upd H p o) = Fz w H := by
  funext a
  unfold Fz
  by_cases ha : a = p
  · subst ha
    rw [if_pos (.inr (.inr rfl))]
    split
    · rfl
    · rw [hp]
  · by_cases h : a ∈ w.as ∨ w.ow a
    · rw [if_pos h, if_pos (h.elim .inl fun q => .inr (.inl q))]
    · rw [if_neg h, if_neg (by rintro (q | q | q); exact h (.inl q); exact h (.inr q); exact ha q), upd_ne ha]
theorem IE.plus (I : IE G w e s σ H) {p : Addr} {o : HO} (hp : H p = none) : IE G (w.plus p) e s σ (upd H p o) := by
  have ef : Fz (w.plus p) (upd H p o) = Fz w H := Fz_plus hp
  have hx : ∀ {a : Addr} {u : HO}, H a = some u → upd H p o a = some u := fun {a u} h => by rw [upd_ne (ne_of_none h hp)]; exact h
  refine ⟨I.len, fun i d h => ?_, fun i ds h => ?_, I.inj, I.slen, fun n ds h => ?_, I.nd, fun a ha => ?_, I.beg, fun a ha => .inl (I.o0 a ha), fun a h => ?_, fun a u h h' => hx (I.keep a u h h'), I.cfresh⟩
  · obtain ⟨v, h1, h2⟩ := I.slot i d h
    exact ⟨v, h1, by rw [ef]; exact h2⟩
  · obtain ⟨q, vs, h1, h2, h3, h4, h5, h6⟩ := I.own i ds h
    exact ⟨q, vs, h1, .inl h2, h3, h4, hx h5, by rw [ef]; exact h6⟩
  · obtain ⟨a, vs, h1, h2, h3⟩ := I.cells n ds h
    exact ⟨a, vs, h1, hx h2, by rw [ef]; exact h3⟩
  · rintro (q | q)
    · exact I.dis a ha q
    · subst q
      exact I.freshA hp ha
  · rcases h with h | h
    · cases z : H a with
      | none => exact absurd z (I.there a h)
      | some u => rw [hx z]; simp
    · subst h; rw [upd_same]; simp
theorem plus_f {p : Addr} {o : HO} (hp : H p = none) : FExt w H (w.plus p) (upd H p o) := ⟨.refl _, by rw [Fz_plus hp]; exact .refl _⟩
theorem Fz_own {p : Addr} {o : HO} (hp : w.ow p) : Fz w (upd H p o) = Fz w H := by
  funext a
  unfold Fz
  by_cases h : a ∈ w.as ∨ w.ow a
  · rw [if_pos h, if_pos h]
  · rw [if_neg h, if_neg h]
    exact upd_ne fun z => by subst z; exact h (.inr hp)
/-- a place of one's own that no local holds is written -/
theorem IE.write (I : IE G w e s σ H) {p : Addr} {o : HO} (hp : w.ow p) (h0 : G.H0 p = none) (hl : Lone e σ p) : IE G w e s σ (upd H p o) := by
  have ef : Fz w (upd H p o) = Fz w H := Fz_own hp
  refine ⟨I.len, fun i d h => ?_, fun i ds h => ?_, I.inj, I.slen, fun n ds h => ?_, I.nd, I.dis, I.beg, I.o0, fun a h => ?_, fun a u h h' => ?_, I.cfresh⟩
  · obtain ⟨v, h1, h2⟩ := I.slot i d h
    exact ⟨v, h1, by rw [ef]; exact h2⟩
  · obtain ⟨q, vs, h1, h2, h3, h4, h5, h6⟩ := I.own i ds h
    have : q ≠ p := fun z => by subst z; exact hl i ds h h1
    exact ⟨q, vs, h1, h2, h3, h4, by rw [upd_ne this]; exact h5, by rw [ef]; exact h6⟩
  · obtain ⟨a, vs, h1, h2, h3⟩ := I.cells n ds h
    have : a ≠ p := fun z => by subst z; exact I.dis a (List.mem_of_getElem? h1) hp
    exact ⟨a, vs, h1, by rw [upd_ne this]; exact h2, by rw [ef]; exact h3⟩
  · by_cases z : a = p
    · subst z; rw [upd_same]; simp
    · rw [upd_ne z]; exact I.there a h
  · have : a ≠ p := fun z => by subst z; rw [h0] at h; cases h
    rw [upd_ne this]
    exact I.keep a u h h'
theorem write_f {p : Addr} {o : HO} (hp : w.ow p) : FExt w H w (upd H p o) := ⟨.refl _, by rw [Fz_own hp]; exact .refl _⟩
/-- a local's own list is written -/
theorem IE.writeOwn (I : IE G w e s σ H) {p : Addr} {vs : List V} {i : Nat} {ds ds' : List Dat} (he : e[i]? = some (.ow ds)) (hσ : σ[i]? = some (some (.ref p))) (r : RpL G.K w.as (Fz w H) ds' vs) : IE G w (e.set i (.ow ds')) s σ (upd H p (.lst vs)) := by
  obtain ⟨q0, vs0, g1, g2, g3, g4, g5, g6⟩ := I.own i ds he
  rw [hσ] at g1; cases g1
  have hi : i < e.length := (List.getElem?_eq_some_iff.mp he).1
  have ef : Fz w (upd H p (.lst vs)) = Fz w H := Fz_own g2
  have inj' : ∀ (j : Nat) es, e[j]? = some (.ow es) → σ[j]? = some (some (.ref p)) → j = i := fun j es h1 h2 => I.inj j i p es ds h1 he h2 hσ
  refine ⟨by rw [List.length_set]; exact I.len, fun j d h => ?_, fun j es h => ?_, fun a b q es fs h1 h2 h3 h4 => ?_, I.slen, fun n es h => ?_, I.nd, I.dis, I.beg, I.o0, fun a h => ?_, fun a u h h' => ?_, I.cfresh⟩
  · by_cases z : i = j
    · subst z; rw [List.getElem?_set_self hi] at h; cases h
    · rw [List.getElem?_set_ne z] at h
      obtain ⟨v, h1, h2⟩ := I.slot j d h
      exact ⟨v, h1, by rw [ef]; exact h2⟩
  · by_cases z : i = j
    · subst z
      rw [List.getElem?_set_self hi] at h; cases h
      exact ⟨p, vs, hσ, g2, g3, g4, upd_same, by rw [ef]; exact r⟩
    · rw [List.getElem?_set_ne z] at h
      obtain ⟨q, us, h1, h2, h3, h4, h5, h6⟩ := I.own j es h
      have : q ≠ p := fun y => by subst y; exact z (inj' j es h h1).symm
      exact ⟨q, us, h1, h2, h3, h4, by rw [upd_ne this]; exact h5, by rw [ef]; exact h6⟩
  · have k : ∀ (j : Nat) es, (e.set i (.ow ds'))[j]? = some (.ow es) → ∃ fs, e[j]? = some (.ow fs) := fun j es h => by
      by_cases z : i = j
      · subst z; exact ⟨ds, he⟩
      · rw [List.getElem?_set_ne z] at h; exact ⟨es, h⟩
    obtain ⟨es', k1⟩ := k a es h1
    obtain ⟨fs', k2⟩ := k b fs h2
    exact I.inj a b q es' fs' k1 k2 h3 h4
  · obtain ⟨a, us, h1, h2, h3⟩ := I.cells n es h
    have : a ≠ p := fun z => by subst z; exact I.dis a (List.mem_of_getElem? h1) g2
    exact ⟨a, us, h1, by rw [upd_ne this]; exact h2, by rw [ef]; exact h3⟩
  · by_cases z : a = p
    · subst z; rw [upd_same]; simp
    · rw [upd_ne z]; exact I.there a h
  · have : a ≠ p := fun z => by subst z; rw [g3] at h; cases h
    rw [upd_ne this]
    exact I.keep a u h h'
/-- a local is stored -/
theorem IE.set (I : IE G w e s σ H) {i : Nat} {d : Dat} {v : V} (hi : i < e.length) (r : Rp G.K w.as (Fz w H) d v) : IE G w (e.set i (.fz d)) s (σ.set i (some v)) H := by
  have hσ : i < σ.length := by rw [← I.len]; exact hi
  have ne_of : ∀ {j : Nat} {es : List Dat}, (e.set i (.fz d))[j]? = some (.ow es) → i ≠ j ∧ e[j]? = some (.ow es) := fun {j es} h => by
    by_cases z : i = j
    · subst z; rw [List.getElem?_set_self hi] at h; cases h
    · rw [List.getElem?_set_ne z] at h; exact ⟨z, h⟩
  refine ⟨by rw [List.length_set, List.length_set]; exact I.len, fun j d' h => ?_, fun j es h => ?_, fun a b q es fs h1 h2 h3 h4 => ?_, I.slen, I.cells, I.nd, I.dis, I.beg, I.o0, I.there, I.keep, I.cfresh⟩
  · by_cases z : i = j
    · subst z
      rw [List.getElem?_set_self hi] at h; cases h
      exact ⟨v, List.getElem?_set_self hσ, r⟩
    · rw [List.getElem?_set_ne z] at h ⊢
      exact I.slot j d' h
  · obtain ⟨z, h'⟩ := ne_of h
    rw [List.getElem?_set_ne z]
    exact I.own j es h'
  · obtain ⟨z1, k1⟩ := ne_of h1
    obtain ⟨z2, k2⟩ := ne_of h2
    rw [List.getElem?_set_ne z1] at h3
    rw [List.getElem?_set_ne z2] at h4
    exact I.inj a b q es fs k1 k2 h3 h4
/-- a list of one's own is given to a local -/
theorem IE.setOwn (I : IE G w e s σ H) {i : Nat} {ds : List Dat} {p : Addr} {vs : List V} (hi : i < e.length) (hp : w.ow p) (h0 : G.H0 p = none) (h1 : ¬ G.O0 p) (hl : Lone e σ p) (hH : H p = some (.lst vs)) (r : RpL G.K w.as (Fz w H) ds vs) :
    IE G w (e.set i (.ow ds)) s (σ.set i (some (.ref p))) H := by
  have hσ : i < σ.length := by rw [← I.len]; exact hi
  refine ⟨by rw [List.length_set, List.length_set]; exact I.len, fun j d' h => ?_, fun j es h => ?_, fun a b q es fs k1 k2 k3 k4 => ?_, I.slen, I.cells, I.nd, I.dis, I.beg, I.o0, I.there, I.keep, I.cfresh⟩
  · by_cases z : i = j
    · subst z; rw [List.getElem?_set_self hi] at h; cases h
    · rw [List.getElem?_set_ne z] at h ⊢
      exact I.slot j d' h
  · by_cases z : i = j
    · subst z
      rw [List.getElem?_set_self hi] at h; cases h
      exact ⟨p, vs, List.getElem?_set_self hσ, hp, h0, h1, hH, r⟩
    · rw [List.getElem?_set_ne z] at h ⊢
      exact I.own j es h
  · by_cases za : i = a
    · subst za
      by_cases zb : i = b
      · exact zb
      · rw [List.getElem?_set_ne zb] at k2 k4
        rw [List.getElem?_set_self hσ] at k3
        cases k3
        exact absurd k4 (hl b fs k2)
    · by_cases zb : i = b
      · subst zb
        rw [List.getElem?_set_ne za] at k1 k3
        rw [List.getElem?_set_self hσ] at k4
        cases k4
        exact absurd k3 (hl a es k1)
      · rw [List.getElem?_set_ne za] at k1 k3
        rw [List.getElem?_set_ne zb] at k2 k4
        exact I.inj a b q es fs k1 k2 k3 k4
/-- a local's own list is no one's own any more -/
@[simp] def frz (i : Nat) (e : Lcs) : Lcs := match e[i]? with
  | some (.ow ds) => e.set i (.fz (.list ds))
  | _ => e
open Classical in
theorem IE.freeze (I : IE G w e s σ H) (i : Nat) : ∃ w', IE G w' (frz i e) s σ H ∧ FExt w H w' H := by
  unfold frz
  split
  · rename_i ds he
    obtain ⟨p, vs, h1, h2, h3, h4, h5, h6⟩ := I.own i ds he
    have hi : i < e.length := (List.getElem?_eq_some_iff.mp he).1
    have sm : Same (Fz w H) (Fz ⟨w.as, fun a => w.ow a ∧ a ≠ p⟩ H) := fun a o h => by
      obtain ⟨k1, k2, k3⟩ := Fz_get h
      exact Fz_of k1 k2 fun q => k3 q.1
    have pa : p ∉ w.as := fun h => I.dis p h h2
    refine ⟨⟨w.as, fun a => w.ow a ∧ a ≠ p⟩, ⟨by rw [List.length_set]; exact I.len, fun j d h => ?_, fun j es h => ?_, fun a b q es fs k1 k2 k3 k4 => ?_, I.slen, fun n es h => ?_, I.nd, fun a ha q => I.dis a ha q.1, I.beg, fun a ha => ⟨I.o0 a ha, fun z => by subst z; exact h4 ha⟩, fun a h => I.there a h.1, I.keep, I.cfresh⟩, ⟨.refl _, sm⟩⟩
    · by_cases z : i = j
      · subst z
        rw [List.getElem?_set_self hi] at h; cases h
        refine ⟨.ref p, h1, ?_⟩
        simp only [Rp]
        exact ⟨p, vs, rfl, Fz_of h5 pa fun q => q.2 rfl, RpL.mono (.refl _) sm _ _ h6⟩
      · rw [List.getElem?_set_ne z] at h
        obtain ⟨v, k1, k2⟩ := I.slot j d h
        exact ⟨v, k1, Rp.mono (.refl _) sm _ _ k2⟩
    · by_cases z : i = j
      · subst z; rw [List.getElem?_set_self hi] at h; cases h
      · rw [List.getElem?_set_ne z] at h
        obtain ⟨q, us, k1, k2, k3, k4, k5, k6⟩ := I.own j es h
        have : q ≠ p := fun y => by subst y; exact z (I.inj i j q ds es he h h1 k1)
        exact ⟨q, us, k1, ⟨k2, this⟩, k3, k4, k5, RpL.mono (.refl _) sm _ _ k6⟩
    · have k : ∀ {j : Nat} {es}, (e.set i (.fz (.list ds)))[j]? = some (.ow es) → e[j]? = some (.ow es) := fun {j es} h => by
        by_cases z : i = j
        · subst z; rw [List.getElem?_set_self hi] at h; cases h
        · rw [List.getElem?_set_ne z] at h; exact h
      exact I.inj a b q es fs (k k1) (k k2) k3 k4
    · obtain ⟨a, us, k1, k2, k3⟩ := I.cells n es h
      exact ⟨a, us, k1, k2, RpL.mono (.refl _) sm _ _ k3⟩
  · exact ⟨w, I, .refl⟩
end

/-! ### statements -/
/-- wanted behind a statement -/
def kS (G : Gx) (w : Wd) (H : Hp) (D : Ends) : Flo → Prop
  | .bad => False
  | .nx e' s' => ∀ w' σ' H', IE G w' e' s' σ' H' → FExt w H w' H' → D.nx σ' H'
  | .bk e' s' => ∀ w' σ' H', IE G w' e' s' σ' H' → FExt w H w' H' → D.bk σ' H'
  | .ct e' s' => ∀ w' σ' H', IE G w' e' s' σ' H' → FExt w H w' H' → D.ct σ' H'
  | .rt d s' => ∀ w' e' σ' v H', IE G w' e' s' σ' H' → FExt w H w' H' → Rp G.K w'.as (Fz w' H') d v → D.rt v H'
def tS (G : Gx) (F : FS) : TS := fun D σ H => ∃ w e s, IE G w e s σ H ∧ kS G w H D (F e s)
theorem kS_ext {w w1 : Wd} {H H1 : Hp} {D : Ends} {f : Flo} (x : FExt w H w1 H1) (h : kS G w H D f) : kS G w1 H1 D f := by
  cases f with
  | bad => exact h
  | nx e s => exact fun w' σ' H' I x' => h w' σ' H' I (x.trans x')
  | bk e s => exact fun w' σ' H' I x' => h w' σ' H' I (x.trans x')
  | ct e s => exact fun w' σ' H' I x' => h w' σ' H' I (x.trans x')
  | rt d s => exact fun w' e' σ' v H' I x' => h w' e' σ' v H' I (x.trans x')
/-- an expression's outcome handed to a statement's end -/
def Res.flo {α : Type} (r : Res α) (f : α → Sto → Flo) : Flo := match r with
  | .bad => .bad
  | .ok a s => f a s
@[simp] theorem flo_ok {α : Type} (a : α) (s : Sto) (f : α → Sto → Flo) : (Res.ok a s).flo f = f a s := rfl
@[simp] theorem flo_bad {α : Type} (f : α → Sto → Flo) : (Res.bad : Res α).flo f = .bad := rfl
theorem flo_holds {α : Type} {r : Res α} {f : α → Sto → Flo} {w : Wd} {H : Hp} {D : Ends} (h : kS G w H D (r.flo f)) : r.holds fun a s => kS G w H D (f a s) := by
  cases r with
  | bad => exact h
  | ok a s => exact h
def Flo.seq (f : Flo) (k : Lcs → Sto → Flo) : Flo := match f with
  | .nx e s => k e s
  | f => f
@[simp] theorem seq_nx (e : Lcs) (s : Sto) (k : Lcs → Sto → Flo) : (Flo.nx e s).seq k = k e s := rfl
@[simp] theorem seq_rt (d : Dat) (s : Sto) (k : Lcs → Sto → Flo) : (Flo.rt d s).seq k = .rt d s := rfl
@[simp] theorem seq_bk (e : Lcs) (s : Sto) (k : Lcs → Sto → Flo) : (Flo.bk e s).seq k = .bk e s := rfl
@[simp] theorem seq_ct (e : Lcs) (s : Sto) (k : Lcs → Sto → Flo) : (Flo.ct e s).seq k = .ct e s := rfl
@[simp] theorem seq_bad (k : Lcs → Sto → Flo) : (Flo.bad).seq k = .bad := rfl
@[simp] def sNext : FS := fun e s => .nx e s
@[simp] def sSeq (F K : FS) : FS := fun e s => (F e s).seq K
@[simp] def sBreak : FS := fun e s => .bk e s
@[simp] def sCont : FS := fun e s => .ct e s
@[simp] def sDrop (Fa : FE) : FS := fun e s => (Fa e s).flo fun _ s' => .nx e s'
@[simp] def sRet (Fa : FE) : FS := fun e s => (Fa e s).flo fun d s' => .rt d s'
@[simp] def sRetN : FS := fun _ s => .rt .none s
@[simp] def sIf (Fc : FT) (F K : FS) : FS := fun e s => (Fc e s).flo fun c s' => if c then F e s' else K e s'
section
variable {st : Stmt} {rest : List Stmt} {a b : List Stmt} {F K : FS} {x : Expr} {Fa : FE} {Fc : FT} {pos : Pos}
theorem ds_nil : PSs X [] (tS G sNext) := PSs_imp pss_nil fun D σ H ⟨w, e, s, I, h⟩ => h w σ H I .refl
theorem ds_cons (h1 : PS X st (tS G F)) (h2 : PSs X rest (tS G K)) : PSs X (st :: rest) (tS G (sSeq F K)) := PSs_imp (pss_cons h1 h2) fun D σ H ⟨w, e, s, I, h⟩ => by
  refine ⟨w, e, s, I, ?_⟩
  unfold sSeq at h
  cases q : F e s with
  | bad => rw [q] at h; exact h
  | nx e1 s1 =>
    rw [q] at h
    exact fun w1 σ1 H1 I1 x1 => ⟨w1, e1, s1, I1, kS_ext x1 h⟩
  | bk e1 s1 => rw [q] at h; exact h
  | ct e1 s1 => rw [q] at h; exact h
  | rt d s1 => rw [q] at h; exact h
theorem ds_one (h1 : PS X st (tS G F)) : PSs X [st] (tS G F) := pss_one h1
theorem ds_pass : PS X (.Pass pos) (tS G sNext) := PS_imp ps_pass fun D σ H ⟨w, e, s, I, h⟩ => h w σ H I .refl
theorem ds_break : PS X (.Break pos) (tS G sBreak) := PS_imp ps_break fun D σ H ⟨w, e, s, I, h⟩ => h w σ H I .refl
theorem ds_continue : PS X (.Continue pos) (tS G sCont) := PS_imp ps_continue fun D σ H ⟨w, e, s, I, h⟩ => h w σ H I .refl
theorem ds_doc {y j pos'} : PS X (.Expr (.Constant (.str y) j pos) pos') (tS G sNext) := PS_imp ps_doc fun D σ H ⟨w, e, s, I, h⟩ => h w σ H I .refl
theorem ds_expr (ha : PE X x (tE G Fa)) (hs : swapsWith x none pos.line X.env = pure false := by rfl) : PS X (.Expr x pos) (tS G (sDrop Fa)) := PS_imp (ps_expr ha hs) fun D σ H ⟨w, e, s, I, h⟩ =>
  ⟨w, e, s, I, holds_imp (flo_holds h) fun d s1 h1 w1 v H1 I1 x1 r1 => h1 w1 σ H1 I1 x1.f⟩
theorem ds_ret (ha : PE X x (tE G Fa)) : PS X (.Return (some x) pos) (tS G (sRet Fa)) := PS_imp (ps_ret ha) fun D σ H ⟨w, e, s, I, h⟩ =>
  ⟨w, e, s, I, holds_imp (flo_holds h) fun d s1 h1 w1 v H1 I1 x1 r1 => h1 w1 e σ v H1 I1 x1.f r1⟩
theorem ds_retN : PS X (.Return none pos) (tS G sRetN) := PS_imp ps_retN fun D σ H ⟨w, e, s, I, h⟩ => h w e σ .non H I .refl rp_n
theorem ds_if {c : Expr} (hc : PT X c (tT G Fc)) (ha : PSs X a (tS G F)) (hb : PSs X b (tS G K)) : PS X (.If c a b pos) (tS G (sIf Fc F K)) := PS_imp (ps_if hc ha hb) fun D σ H ⟨w, e, s, I, h⟩ => by
  refine ⟨w, e, s, I, holds_imp (flo_holds h) fun d s1 h1 w1 H1 I1 x1 => ?_⟩
  cases d with
  | true => exact iteT ⟨w1, e, s1, I1, kS_ext x1.f h1⟩
  | false => exact iteF ⟨w1, e, s1, I1, kS_ext x1.f h1⟩
/-- a ghost step: the local's own list stands still from here on -/
@[simp] def sFreeze (i : Nat) (F : FS) : FS := fun e s => F (frz i e) s
theorem ds_freeze (i : Nat) (h : PS X st (tS G F)) : PS X st (tS G (sFreeze i F)) := PS_imp h fun D σ H ⟨w, e, s, I, q⟩ => by
  obtain ⟨w', J, x⟩ := I.freeze i
  exact ⟨w', frz i e, s, J, kS_ext x q⟩
theorem dss_freeze (i : Nat) (h : PSs X rest (tS G F)) : PSs X rest (tS G (sFreeze i F)) := PSs_imp h fun D σ H ⟨w, e, s, I, q⟩ => by
  obtain ⟨w', J, x⟩ := I.freeze i
  exact ⟨w', frz i e, s, J, kS_ext x q⟩
end

/-! ### targets -/
def kG (G : Gx) (is : List Nat) (w : Wd) (σ : L2.St) (H : Hp) (Q : L2.St → Hp → Prop) : Lcs → Sto → Prop := fun e' s' => ∀ w' σ' H', IE G w' e' s' σ' H' → EExt w H w' H' → (∀ i, i ∉ is → σ'[i]? = σ[i]?) → σ'.length = σ.length → Q σ' H'
def tG (G : Gx) (is : List Nat) (F : FG) : TG := fun v σ H Q => ∃ w e s d, IE G w e s σ H ∧ Rp G.K w.as (Fz w H) d v ∧ (F d e s).holds (kG G is w σ H Q)
abbrev FGs := List Dat → Lcs → Sto → Res Lcs
def tGs (G : Gx) (is : List Nat) (F : FGs) : TGs := fun vs σ H Q => ∃ w e s ds, IE G w e s σ H ∧ RpL G.K w.as (Fz w H) ds vs ∧ (F ds e s).holds (kG G is w σ H Q)
theorem PG_imp {a : Expr} {t t' : TG} (h : PG X a t) (k : ∀ v σ H Q, t' v σ H Q → t v σ H Q) : PG X a t' := ⟨fun pins s σ H v u Q I r q => h.run pins s σ H v u Q I r (k _ _ _ _ q)⟩
theorem PGs_imp {a : List Expr} {t t' : TGs} (h : PGs X a t) (k : ∀ v σ H Q, t' v σ H Q → t v σ H Q) : PGs X a t' := ⟨fun pins s σ H v u Q I r q => h.run pins s σ H v u Q I r (k _ _ _ _ q)⟩
@[simp] def gSet (i : Nat) : FG := fun d e s => if i < e.length then .ok (e.set i (.fz d)) s else .bad
@[simp] def gsNil : FGs := fun ds e s => match ds with
  | [] => .ok e s
  | _ => .bad
@[simp] def gsCons (F : FG) (Fr : FGs) : FGs := fun ds e s => match ds with
  | d :: r => (F d e s).bind fun e1 s1 => Fr r e1 s1
  | [] => .bad
@[simp] def gTupT (n : Nat) (F : FGs) : FG := fun d e s => match d with
  | .tuple ds => if ds.length = n then F ds e s else .bad
  | _ => .bad
theorem dg_name (i : Nat) {x : Str} {pos : Pos} (hN : X.N.Nodup) (hi : X.N[i]? = some x := by rfl) (hx : Loc X.env.scope x := by first | exact Or.inl rfl | exact Or.inr rfl) (hf : X.fn x = true ∨ X.env.scope.names.lookup x = some .local := by first | exact .inl rfl | exact .inr rfl) : PG X (.Name x pos) (tG G [i] (gSet i)) :=
  PG_imp (pg_name hN hi hx hf) fun v σ H Q ⟨w, e, s, d, I, r, h⟩ => by
    unfold gSet at h
    split at h
    · rename_i c
      exact h w _ H (I.set c r) .refl (fun j hj => by
        have hj' : j ≠ i := by simpa using hj
        exact List.getElem?_set_ne (Ne.symm hj')) (by rw [List.length_set])
    · exact h.elim
theorem dgs_nil : PGs X [] (tGs G [] gsNil) := PGs_imp pgs_nil fun vs σ H Q ⟨w, e, s, ds, I, r, h⟩ => by
  unfold gsNil at h
  split at h
  · cases vs with
    | nil => exact ⟨rfl, h w σ H I .refl (fun _ _ => rfl) rfl⟩
    | cons _ _ => simp [RpL] at r
  · exact h.elim
theorem dgs_cons {a : Expr} {r : List Expr} {F : FG} {Fr : FGs} {is js : List Nat} (h1 : PG X a (tG G is F)) (h2 : PGs X r (tGs G js Fr)) (hs : (assignEach (a :: r) X.env).map (·.2) = assign a X.env :: (assignEach r X.env).map (·.2) := by rfl) : PGs X (a :: r) (tGs G (is ++ js) (gsCons F Fr)) :=
  PGs_imp (pgs_cons h1 h2 hs) fun vs σ H Q ⟨w, e, s, ds, I, r, h⟩ => by
    unfold gsCons at h
    split at h
    · rename_i d dr
      cases vs with
      | nil => simp [RpL] at r
      | cons v vr =>
        simp only [RpL] at r
        refine ⟨v, vr, rfl, w, e, s, d, I, r.1, holds_imp (holds_bind h) fun e1 s1 k w1 σ1 H1 I1 x1 a1 l1 => ?_⟩
        refine ⟨w1, e1, s1, dr, I1, x1.rpl r.2, holds_imp k fun e2 s2 k2 w2 σ2 H2 I2 x2 a2 l2 => ?_⟩
        exact k2 w2 σ2 H2 I2 (x1.trans x2) (fun i hi => (a2 i fun z => hi (List.mem_append_right _ z)).trans (a1 i fun z => hi (List.mem_append_left _ z))) (l2.trans l1)
    · exact h.elim
theorem dg_tup {es : List Expr} {k : Nat} {pos : Pos} {F : FGs} {is : List Nat} {n : Nat} (hc : X.calm = true) (hK : X.K = G.K) (h : PGs X es (tGs G is F)) (hn : (assignEach es X.env).length = n := by rfl) (hst : (assignEach es X.env).findIdx? (·.1) = none := by rfl) : PG X (.Tuple es k pos) (tG G is (gTupT n F)) :=
  PG_imp (pg_tup hc h hn hst) fun v σ H Q ⟨w, e, s, d, I, r, q⟩ => by
    unfold gTupT at q
    split at q
    · rename_i ds
      split at q
      · rename_i c
        obtain ⟨a, xs, rfl, hq, rx⟩ := rp_tuple r
        exact ⟨a, xs, rfl, by rw [hK]; exact sqT_mono Fz_sub hq, by rw [rx.length]; exact c, w, e, s, ds, I, rx, q⟩
      · exact q.elim
    · exact q.elim

/-! ### assignments -/
@[simp] def sAsg (Fa : FE) (F : FG) : FS := fun e s => (Fa e s).flo fun d s1 => (F d e s1).flo fun e2 s2 => .nx e2 s2
@[simp] def sSet (i : Nat) (Fa : FE) : FS := fun e s => sAsg Fa (gSet i) e s
theorem tAsg_of {Fa : FE} {F : FG} {is : List Nat} {D : Ends} {σ : L2.St} {H : Hp} (h : tS G (sAsg Fa F) D σ H) : tAsg (tE G Fa) (tG G is F) D σ H := by
  obtain ⟨w, e, s, I, h⟩ := h
  refine ⟨w, e, s, I, holds_imp (flo_holds h) fun d s1 h1 w1 v H1 I1 x1 r1 => ?_⟩
  exact ⟨w1, e, s1, d, I1, r1, holds_imp (flo_holds h1) fun e2 s2 h2 w2 σ2 H2 I2 x2 _ _ => h2 w2 σ2 H2 I2 (x1.f.trans x2.f)⟩
theorem ds_asg {tg x : Expr} {pos : Pos} {Fa : FE} {F : FG} {is : List Nat} (ha : PE X x (tE G Fa)) (hg : PG X tg (tG G is F)) (hs : swapsWithSole [tg] x pos.line X.env = pure false := by rfl) (hw : swappedStores [tg] x X.env = pure none := by rfl)
    (h1 : (assignEach [tg] X.env).map (·.2) = [assign tg X.env] := by rfl) : PS X (.Assign [tg] x pos) (tS G (sAsg Fa F)) := PS_imp (ps_asg ha hg hs hw h1) fun _ _ _ h => tAsg_of h
theorem gName_of {i : Nat} {v : V} {σ : L2.St} {H : Hp} {Q : L2.St → Hp → Prop} {is : List Nat} (h : tG G is (gSet i) v σ H Q) (hi : i ∈ is) : gName i v σ H Q := by
  obtain ⟨w, e, s, d, I, r, h⟩ := h
  unfold gSet at h
  split at h
  · rename_i c
    exact h w _ H (I.set c r) .refl (fun j hj => List.getElem?_set_ne fun (z : i = j) => hj (by rw [← z]; exact hi)) (by rw [List.length_set])
  · exact h.elim
theorem ds_set (i : Nat) {y : Str} {x : Expr} {pos pos' : Pos} {Fa : FE} (hN : X.N.Nodup) (ha : PE X x (tE G Fa)) (hi : X.N[i]? = some y := by rfl) (hx : Loc X.env.scope y := by first | exact Or.inl rfl | exact Or.inr rfl) (hs : swapsWith x (some (.Name y pos')) pos.line X.env = pure false := by rfl)
    (hf : X.fn y = true ∨ X.env.scope.names.lookup y = some .local := by first | exact .inl rfl | exact .inr rfl) : PS X (.Assign [.Name y pos'] x pos) (tS G (sSet i Fa)) :=
  PS_imp (ps_set hN hi hx ha hs hf) fun D σ H h => by
    have h' := tAsg_of (is := [i]) h
    obtain ⟨w, e, s, I, h'⟩ := h'
    exact ⟨w, e, s, I, holds_imp h' fun d s1 k w1 v H1 I1 x1 r1 => gName_of (k w1 v H1 I1 x1 r1) (by simp)⟩
/-- a, b = x, y with plain local names -/
@[simp] def sPar (i j : Nat) (Fs : FA) : FS := fun e s => (Fs e s).flo fun ds s1 => match ds with
  | [d1, d2] => if i < e.length ∧ j < e.length then .nx ((e.set i (.fz d1)).set j (.fz d2)) s1 else .bad
  | _ => .bad
theorem ds_par (i j : Nat) {x y : Str} {a b : Expr} {Fs : FA} {px py pt pos : Pos} {kt k2 pt2} (hc : X.calm = true) (hN : X.N.Nodup) (ha : PA X [a, b] (tA G Fs)) (hi : X.N[i]? = some x := by rfl) (hj : X.N[j]? = some y := by rfl) (hij : i ≠ j := by decide)
    (hx : X.env.scope.names.lookup x = some .local := by rfl) (hy : X.env.scope.names.lookup y = some .local := by rfl)
    (hw : swappedStores [.Tuple [.Name x px, .Name y py] kt pt] (.Tuple [a, b] k2 pt2) X.env = pure (some [x, y]) := by rfl)
    (hs : swapsWithSole [.Tuple [.Name x px, .Name y py] kt pt] (.Tuple [a, b] k2 pt2) pos.line X.env = pure false := by rfl) :
    PS X (.Assign [.Tuple [.Name x px, .Name y py] kt pt] (.Tuple [a, b] k2 pt2) pos) (tS G (sPar i j Fs)) := PS_imp (ps_par hc hN hi hj hij hx hy ha hw hs) fun D σ H ⟨w, e, s, I, h⟩ => by
  refine ⟨w, e, s, I, holds_imp (flo_holds h) fun ds s1 h1 w1 vs H1 I1 x1 r1 => ?_⟩
  split at h1
  · rename_i d1 d2
    split at h1
    · rename_i c
      obtain ⟨v1, v2, rfl, k1, k2⟩ := rpl2 r1
      exact ⟨v1, v2, rfl, h1 w1 _ H1 ((I1.set c.1 k1).set (by rw [List.length_set]; exact c.2) k2) x1.f⟩
    · exact h1.elim
  · exact h1.elim
/-- x op= e, ints -/
@[simp] def sAug (i : Nat) (f : Int → Int → Int) (Fa : FE) : FS := fun e s => match e[i]? with
  | some (.fz (.int a)) => (Fa e s).flo fun d s1 => match d with
    | .int b => .nx (e.set i (.fz (.int (f a b)))) s1
    | _ => .bad
  | _ => .bad
theorem ds_aug (i : Nat) {x : Str} {a : Expr} {op : Operator} {pos pos' : Pos} {Fa : FE} {f : Int → Int → Int} (ho : PIp X op (ipI f)) (hN : X.N.Nodup) (ha : PE X a (tE G Fa)) (hi : X.N[i]? = some x := by rfl) (hx : Loc X.env.scope x := by first | exact Or.inl rfl | exact Or.inr rfl)
    (hf : X.fn x = true ∨ X.env.scope.names.lookup x = some .local := by first | exact .inl rfl | exact .inr rfl) : PS X (.AugAssign (.Name x pos') op a pos) (tS G (sAug i f Fa)) := PS_imp (ps_aug hN hi hx ha ho hf) fun D σ H ⟨w, e, s, I, h⟩ => by
  unfold sAug at h
  split at h
  · rename_i m hm
    obtain ⟨v, h1, h2⟩ := I.slot i _ hm
    have hi' : i < e.length := (List.getElem?_eq_some_iff.mp hm).1
    refine ⟨v, h1, w, e, s, I, holds_imp (flo_holds h) fun d s1 h3 w1 y H1 I1 x1 r1 => ?_⟩
    split at h3
    · rename_i n
      refine ⟨m, n, rp_int h2, rp_int r1, h3 w1 _ H1 (I1.set hi' rp_i) x1.f⟩
    · exact h3.elim
  · exact h.elim
theorem ds_augAdd (i : Nat) {x : Str} {a : Expr} {pos pos' : Pos} {Fa : FE} (hN : X.N.Nodup) (ha : PE X a (tE G Fa)) (hi : X.N[i]? = some x := by rfl) (hx : Loc X.env.scope x := by first | exact Or.inl rfl | exact Or.inr rfl)
    (hf : X.fn x = true ∨ X.env.scope.names.lookup x = some .local := by first | exact .inl rfl | exact .inr rfl) : PS X (.AugAssign (.Name x pos') .Add a pos) (tS G (sAug i (· + ·) Fa)) := ds_aug i ip_add hN ha hi hx hf
end
end DL

namespace DL
open PySem PySem.Spec PyProof.Rows L2
section
variable {X : Cx} {G : Gx}

/-! ### what is walked -/
structure Wk (G : Gx) (w : Wd) (H : Hp) (J : It) (ds : List Dat) : Prop where
  go : ∀ w' H', FExt w H w' H' → ∀ i, i < ds.length → J.go i H'
  stop : ∀ w' H', FExt w H w' H' → ∀ i, ds.length ≤ i → J.stop i H'
  yld : ∀ w' e s σ H' H'' i x, IE G w' e s σ H' → FExt w H w' H' → i < ds.length → J.yld i H' x H'' → IE G w' e s σ H'' ∧ EExt w' H' w' H'' ∧ ∃ d, ds[i]? = some d ∧ Rp G.K w'.as (Fz w' H'') d x
def kI (G : Gx) (w : Wd) (e : Lcs) (σ : L2.St) (H : Hp) (R : It → Hp → Prop) : List Dat → Sto → Prop := fun ds s' => ∀ w' H' J, IE G w' e s' σ H' → EExt w H w' H' → Wk G w' H' J ds → R J H'
def tI (G : Gx) (F : FA) : TI := fun σ H R => ∃ w e s, IE G w e s σ H ∧ (F e s).holds (kI G w e σ H R)
theorem PI_imp {tg a : Expr} {t t' : TI} (h : PI X tg a t) (k : ∀ σ H R, t' σ H R → t σ H R) : PI X tg a t' := ⟨fun pins s σ H R I q => h.run pins s σ H R I (k _ _ _ q)⟩
theorem PI_or {tg a : Expr} {t t' : TI} (h : PI X tg a t) (h' : PI X tg a t') : PI X tg a (fun σ H R => t σ H R ∨ t' σ H R) := ⟨fun pins s σ H R I q => by
  rcases q with q | q
  · exact h.run pins s σ H R I q
  · exact h'.run pins s σ H R I q⟩
theorem wk_list {w : Wd} {H : Hp} {a : Addr} {xs : List V} {ds : List Dat} (ha : Fz w H a = some (.lst xs)) (r : RpL G.K w.as (Fz w H) ds xs) : Wk G w H (Itl G.K a) ds := by
  have at_ : ∀ {w' H'}, FExt w H w' H' → SqL G.K H' a xs := fun {w' H'} x => .inl (.inl (Fz_sub _ _ (x.same _ _ ha)))
  refine ⟨fun w' H' x i hi => ?_, fun w' H' x i hi => ⟨xs, at_ x, by rw [r.length]; exact hi⟩, fun w' e s σ H' H'' i v I x hi y => ?_⟩
  · have hi' : i < xs.length := by rw [r.length]; exact hi
    exact ⟨xs, xs[i], at_ x, List.getElem?_eq_getElem hi'⟩
  · obtain ⟨rfl, y⟩ := y
    obtain ⟨d, h1, h2⟩ := r.get (y xs (at_ x))
    exact ⟨I, .refl, d, h1, x.rp h2⟩
theorem wk_tuple {w : Wd} {H : Hp} {a : Addr} {xs : List V} {ds : List Dat} (ha : SqT G.K (Fz w H) a xs) (r : RpL G.K w.as (Fz w H) ds xs) : Wk G w H (Itt G.K a) ds := by
  have at_ : ∀ {w' H'}, FExt w H w' H' → SqT G.K H' a xs := fun {w' H'} x => sqT_mono (x.same.trans Fz_sub) ha
  refine ⟨fun w' H' x i hi => ?_, fun w' H' x i hi => ⟨xs, at_ x, by rw [r.length]; exact hi⟩, fun w' e s σ H' H'' i v I x hi y => ?_⟩
  · have hi' : i < xs.length := by rw [r.length]; exact hi
    exact ⟨xs, xs[i], at_ x, List.getElem?_eq_getElem hi'⟩
  · obtain ⟨rfl, y⟩ := y
    obtain ⟨d, h1, h2⟩ := r.get (y xs (at_ x))
    exact ⟨I, .refl, d, h1, x.rp h2⟩
def chars (z : Str) : List Dat := z.cps.toList.map fun c => .str ⟨#[c]⟩
theorem wk_str {w : Wd} {H : Hp} {z : Str} : Wk G w H (Its z) (chars z) := by
  have hl : (chars z).length = z.cps.size := by unfold chars; rw [List.length_map, Array.length_toList]
  refine ⟨fun w' H' x i hi => by rw [hl] at hi; exact hi, fun w' H' x i hi => by rw [hl] at hi; exact hi, fun w' e s σ H' H'' i v I x hi y => ?_⟩
  obtain ⟨rfl, c, hc, rfl⟩ := y
  refine ⟨I, .refl, .str ⟨#[c]⟩, ?_, rp_s⟩
  unfold chars
  rw [List.getElem?_map, Array.getElem?_toList, hc]
  rfl
@[simp] def fIter (Fa : FE) : FA := fun e s => (Fa e s).bind fun d s1 => match d with
  | .list ds => .ok ds s1
  | .tuple ds => .ok ds s1
  | .str z => .ok (chars z) s1
  | _ => .bad
theorem di_seq {tg a : Expr} {Fa : FE} (hK : X.K = G.K) (ha : PE X a (tE G Fa)) : PI X tg a (tI G (fIter Fa)) := PI_imp (PI_or (pi_list ha) (PI_or (pi_tup ha) (pi_str ha))) fun σ H R ⟨w, e, s, I, h⟩ => by
  unfold fIter at h
  rw [hK]
  cases q : Fa e s with
  | bad => rw [q] at h; exact h.elim
  | ok d s1 =>
    rw [q] at h
    cases d with
    | list ds =>
      refine .inl ⟨w, e, s, I, ?_⟩
      rw [q]
      intro w1 x H1 I1 x1 r1
      obtain ⟨p, xs, rfl, hp, rx⟩ := rp_list r1
      exact ⟨p, rfl, ⟨xs, .inl (.inl (Fz_sub _ _ hp))⟩, h w1 H1 _ I1 x1 (wk_list hp rx)⟩
    | tuple ds =>
      refine .inr (.inl ⟨w, e, s, I, ?_⟩)
      rw [q]
      intro w1 x H1 I1 x1 r1
      obtain ⟨p, xs, rfl, hp, rx⟩ := rp_tuple r1
      exact ⟨p, rfl, ⟨xs, sqT_mono Fz_sub hp⟩, h w1 H1 _ I1 x1 (wk_tuple hp rx)⟩
    | str z =>
      refine .inr (.inr ⟨w, e, s, I, ?_⟩)
      rw [q]
      intro w1 x H1 I1 x1 r1
      exact ⟨z, rp_str r1, h w1 H1 _ I1 x1 wk_str⟩
    | _ => exact h.elim
def ups (lo : Int) (n : Nat) : List Dat := (List.range n).map fun (i : Nat) => PyData.int (lo + i)
theorem ups_len (lo : Int) (n : Nat) : (ups lo n).length = n := by unfold ups; rw [List.length_map, List.length_range]
theorem wk_range {w : Wd} {H : Hp} {lo : Int} {n : Nat} : Wk G w H (Itr lo n) (ups lo n) := by
  refine ⟨fun w' H' x i hi => by rw [ups_len] at hi; exact hi, fun w' H' x i hi => by rw [ups_len] at hi; exact hi, fun w' e s σ H' H'' i v I x hi y => ?_⟩
  obtain ⟨rfl, rfl⟩ := y
  rw [ups_len] at hi
  refine ⟨I, .refl, .int (lo + i), ?_, rp_i⟩
  unfold ups
  rw [List.getElem?_map, List.getElem?_range hi]; rfl
def cRng (i : Int) : Bool := decide (-(2 ^ 62) ≤ i) && decide (i < 2 ^ 62)
theorem cRng_is {i : Int} (h : cRng i = true) : -(2 ^ 62) ≤ i ∧ i < 2 ^ 62 := by
  unfold cRng at h
  rw [Bool.and_eq_true] at h
  exact ⟨of_decide_eq_true h.1, of_decide_eq_true h.2⟩
@[simp] def gRng1 : List Dat → Sto → Res (List Dat) := fun ds s => match ds with
  | [.int j] => if cRng j then .ok (ups 0 j.toNat) s else .bad
  | _ => .bad
@[simp] def gRng2 : List Dat → Sto → Res (List Dat) := fun ds s => match ds with
  | [.int i, .int j] => if cRng i && cRng j then .ok (ups i (j - i).toNat) s else .bad
  | _ => .bad
@[simp] def fItA (g : List Dat → Sto → Res (List Dat)) (Fs : FA) : FA := fun e s => (Fs e s).bind fun ds s1 => g ds s1
theorem di_range1 {tg a : Expr} {p pos : Pos} {Fs : FA} (hm : X.mg "range" = none) (ha : PA X [a] (tA G Fs)) (hg : Gl X "range" := by rfl) (hs : starEach [a] X.env = [(false, eval a X.env)] := by rfl) : PI X tg (.Call (.Name "range" p) [a] [] pos) (tI G (fItA gRng1 Fs)) :=
  PI_imp (pi_range1 hg hm ha hs) fun σ H R ⟨w, e, s, I, h⟩ => by
    refine ⟨w, e, s, I, holds_imp (holds_bind h) fun ds s1 h1 w1 vs H1 I1 x1 r1 => ?_⟩
    unfold gRng1 at h1
    split at h1
    · split at h1
      · rename_i c
        obtain ⟨v, rfl, k⟩ := rpl1 r1
        rw [rp_int k]
        exact ⟨_, rfl, (cRng_is c).1, (cRng_is c).2, h1 w1 H1 _ I1 x1 wk_range⟩
      · exact h1.elim
    · exact h1.elim
theorem di_range2 {tg a b : Expr} {p pos : Pos} {Fs : FA} (hm : X.mg "range" = none) (ha : PA X [a, b] (tA G Fs)) (hg : Gl X "range" := by rfl) (hs : starEach [a, b] X.env = [(false, eval a X.env), (false, eval b X.env)] := by rfl) (hs2 : starEach [b] X.env = [(false, eval b X.env)] := by rfl) :
    PI X tg (.Call (.Name "range" p) [a, b] [] pos) (tI G (fItA gRng2 Fs)) :=
  PI_imp (pi_range2 hg hm ha hs hs2) fun σ H R ⟨w, e, s, I, h⟩ => by
    refine ⟨w, e, s, I, holds_imp (holds_bind h) fun ds s1 h1 w1 vs H1 I1 x1 r1 => ?_⟩
    unfold gRng2 at h1
    split at h1
    · split at h1
      · rename_i c
        rw [Bool.and_eq_true] at c
        obtain ⟨v, v2, rfl, k, k2⟩ := rpl2 r1
        rw [rp_int k, rp_int k2]
        exact ⟨_, _, rfl, ⟨(cRng_is c.1).1, (cRng_is c.1).2, (cRng_is c.2).1, (cRng_is c.2).2⟩, h1 w1 H1 _ I1 x1 wk_range⟩
      · exact h1.elim
    · exact h1.elim
/-- pairs: zip, enumerate -/
def pairs (xs ys : List Dat) : List Dat := (xs.zip ys).map fun p => .tuple [p.1, p.2]
theorem pair_new {w : Wd} {e : Lcs} {s : Sto} {σ : L2.St} {H : Hp} {T : Addr} {x y : V} {a b : Dat} (I : IE G w e s σ H) (hT : H T = none) (ra : Rp G.K w.as (Fz w H) a x) (rb : Rp G.K w.as (Fz w H) b y) :
    IE G w e s σ (upd H T (.tup [x, y])) ∧ EExt w H w (upd H T (.tup [x, y])) ∧ Rp G.K w.as (Fz w (upd H T (.tup [x, y]))) (.tuple [a, b]) (.ref T) := by
  refine ⟨I.new hT, I.newE hT, ?_⟩
  simp only [Rp]
  exact ⟨T, [x, y], rfl, .inl (.inl (I.newF hT)), RpL.cons ((I.newE hT).rp ra) (RpL.one ((I.newE hT).rp rb))⟩
theorem pairs_len (xs ys : List Dat) : (pairs xs ys).length = min xs.length ys.length := by unfold pairs; rw [List.length_map, List.length_zip]
theorem pairs_get {xs ys : List Dat} {i : Nat} {a b : Dat} (h1 : xs[i]? = some a) (h2 : ys[i]? = some b) : (pairs xs ys)[i]? = some (.tuple [a, b]) := by
  unfold pairs
  rw [List.getElem?_map, (List.getElem?_zip_eq_some (z := (a, b))).mpr ⟨h1, h2⟩]; rfl
theorem wk_zip {w : Wd} {H : Hp} {a b : Addr} {xs ys : List V} {ds es : List Dat} (ha : Fz w H a = some (.lst xs)) (r : RpL G.K w.as (Fz w H) ds xs) (hb : Fz w H b = some (.lst ys)) (r2 : RpL G.K w.as (Fz w H) es ys) : Wk G w H (Itz G.K a b) (pairs ds es) := by
  have at_ : ∀ {w' H'}, FExt w H w' H' → SqL G.K H' a xs := fun {w' H'} x => .inl (.inl (Fz_sub _ _ (x.same _ _ ha)))
  have at2 : ∀ {w' H'}, FExt w H w' H' → SqL G.K H' b ys := fun {w' H'} x => .inl (.inl (Fz_sub _ _ (x.same _ _ hb)))
  have l1 := r.length
  have l2 := r2.length
  refine ⟨fun w' H' x i hi => ?_, fun w' H' x i hi => ⟨xs, ys, at_ x, at2 x, ?_⟩, fun w' e s σ H' H'' i v I x hi y => ?_⟩
  · rw [pairs_len] at hi
    have h1 : i < xs.length := by omega
    have h2 : i < ys.length := by omega
    exact ⟨xs, ys, xs[i], ys[i], at_ x, at2 x, List.getElem?_eq_getElem h1, List.getElem?_eq_getElem h2⟩
  · rw [pairs_len] at hi
    omega
  · obtain ⟨T, x1, y1, rfl, hT, rfl, f1, f2⟩ := y
    obtain ⟨d1, g1, k1⟩ := r.get (f1 xs (at_ x))
    obtain ⟨d2, g2, k2⟩ := r2.get (f2 ys (at2 x))
    obtain ⟨J, E, R⟩ := pair_new I hT (x.rp k1) (x.rp k2)
    exact ⟨J, E, _, pairs_get g1 g2, R⟩
theorem wk_zipT {w : Wd} {H : Hp} {a b : Addr} {xs ys : List V} {ds es : List Dat} (ha : SqT G.K (Fz w H) a xs) (r : RpL G.K w.as (Fz w H) ds xs) (hb : SqT G.K (Fz w H) b ys) (r2 : RpL G.K w.as (Fz w H) es ys) : Wk G w H (RZ.ItzT G.K a b) (pairs ds es) := by
  have at_ : ∀ {w' H'}, FExt w H w' H' → SqT G.K H' a xs := fun {w' H'} x => sqT_mono (x.same.trans Fz_sub) ha
  have at2 : ∀ {w' H'}, FExt w H w' H' → SqT G.K H' b ys := fun {w' H'} x => sqT_mono (x.same.trans Fz_sub) hb
  have l1 := r.length
  have l2 := r2.length
  refine ⟨fun w' H' x i hi => ?_, fun w' H' x i hi => ⟨xs, ys, at_ x, at2 x, ?_⟩, fun w' e s σ H' H'' i v I x hi y => ?_⟩
  · rw [pairs_len] at hi
    have h1 : i < xs.length := by omega
    have h2 : i < ys.length := by omega
    exact ⟨xs, ys, xs[i], ys[i], at_ x, at2 x, List.getElem?_eq_getElem h1, List.getElem?_eq_getElem h2⟩
  · rw [pairs_len] at hi
    omega
  · obtain ⟨T, x1, y1, rfl, hT, rfl, f1, f2⟩ := y
    obtain ⟨d1, g1, k1⟩ := r.get (f1 xs (at_ x))
    obtain ⟨d2, g2, k2⟩ := r2.get (f2 ys (at2 x))
    obtain ⟨J, E, R⟩ := pair_new I hT (x.rp k1) (x.rp k2)
    exact ⟨J, E, _, pairs_get g1 g2, R⟩
theorem wk_enum {w : Wd} {H : Hp} {a : Addr} {xs : List V} {ds : List Dat} (ha : Fz w H a = some (.lst xs)) (r : RpL G.K w.as (Fz w H) ds xs) : Wk G w H (Ite G.K a) (pairs (ups 0 ds.length) ds) := by
  have at_ : ∀ {w' H'}, FExt w H w' H' → SqL G.K H' a xs := fun {w' H'} x => .inl (.inl (Fz_sub _ _ (x.same _ _ ha)))
  have l1 := r.length
  refine ⟨fun w' H' x i hi => ?_, fun w' H' x i hi => ⟨xs, at_ x, ?_⟩, fun w' e s σ H' H'' i v I x hi y => ?_⟩
  · rw [pairs_len, ups_len] at hi
    have h1 : i < xs.length := by omega
    exact ⟨xs, xs[i], at_ x, List.getElem?_eq_getElem h1⟩
  · rw [pairs_len, ups_len] at hi
    omega
  · obtain ⟨T, y1, rfl, hT, rfl, f2⟩ := y
    obtain ⟨d2, g2, k2⟩ := r.get (f2 xs (at_ x))
    rw [pairs_len, ups_len] at hi
    obtain ⟨J, E, R⟩ := pair_new I hT (rp_i (i := (i : Int))) (x.rp k2)
    refine ⟨J, E, _, pairs_get ?_ g2, R⟩
    unfold ups
    rw [List.getElem?_map, List.getElem?_range (by omega)]
    simp
@[simp] def gZip : List Dat → Sto → Res (List Dat) := fun ds s => match ds with
  | [.list xs, .list ys] => .ok (pairs xs ys) s
  | [.tuple xs, .tuple ys] => .ok (pairs xs ys) s
  | _ => .bad
@[simp] def gEnum : List Dat → Sto → Res (List Dat) := fun ds s => match ds with
  | [.list xs] => .ok (pairs (ups 0 xs.length) xs) s
  | _ => .bad
theorem di_zip {a b : Expr} {p pos tpos : Pos} {elts : List Expr} {kk : Nat} {Fs : FA} (hK : X.K = G.K) (hm : X.mg "zip" = none) (ha : PA X [a, b] (tA G Fs)) (hg : Gl X "zip" := by rfl)
    (hs : starEach [a, b] X.env = (false, eval a X.env) :: starEach [b] X.env := by rfl) (hpl : (backTo pos (starEach [b] X.env)).any (·.1) = false := by rfl) : PI X (.Tuple elts kk tpos) (.Call (.Name "zip" p) [a, b] [] pos) (tI G (fItA gZip Fs)) :=
  PI_imp (RZ.pi_zipA hg hm ha hs hpl) fun σ H R ⟨w, e, s, I, h⟩ => by
    rw [hK]
    refine ⟨w, e, s, I, holds_imp (holds_bind h) fun ds s1 h1 w1 vs H1 I1 x1 r1 => ?_⟩
    unfold gZip at h1
    split at h1
    · obtain ⟨v, v2, rfl, k, k2⟩ := rpl2 r1
      obtain ⟨p, xs, rfl, hp, rx⟩ := rp_list k
      obtain ⟨q, ys, rfl, hq, ry⟩ := rp_list k2
      exact ⟨p, q, xs, ys, rfl, .inl ⟨.inl (.inl (Fz_sub _ _ hp)), .inl (.inl (Fz_sub _ _ hq)), h1 w1 H1 _ I1 x1 (wk_zip hp rx hq ry)⟩⟩
    · obtain ⟨v, v2, rfl, k, k2⟩ := rpl2 r1
      obtain ⟨p, xs, rfl, hp, rx⟩ := rp_tuple k
      obtain ⟨q, ys, rfl, hq, ry⟩ := rp_tuple k2
      exact ⟨p, q, xs, ys, rfl, .inr ⟨sqT_mono Fz_sub hp, sqT_mono Fz_sub hq, h1 w1 H1 _ I1 x1 (wk_zipT hp rx hq ry)⟩⟩
    · exact h1.elim
theorem di_enum {a : Expr} {p pos tpos : Pos} {elts : List Expr} {kk : Nat} {Fs : FA} (hK : X.K = G.K) (hm : X.mg "enumerate" = none) (ha : PA X [a] (tA G Fs)) (hg : Gl X "enumerate" := by rfl) (hs : starEach [a] X.env = [(false, eval a X.env)] := by rfl) :
    PI X (.Tuple elts kk tpos) (.Call (.Name "enumerate" p) [a] [] pos) (tI G (fItA gEnum Fs)) :=
  PI_imp (pi_enum hg hm ha hs) fun σ H R ⟨w, e, s, I, h⟩ => by
    rw [hK]
    refine ⟨w, e, s, I, holds_imp (holds_bind h) fun ds s1 h1 w1 vs H1 I1 x1 r1 => ?_⟩
    unfold gEnum at h1
    split at h1
    · obtain ⟨v, rfl, k⟩ := rpl1 r1
      obtain ⟨p, xs, rfl, hp, rx⟩ := rp_list k
      exact ⟨p, xs, rfl, .inl (.inl (Fz_sub _ _ hp)), h1 w1 H1 _ I1 x1 (wk_enum hp rx)⟩
    · exact h1.elim

/-! ### for -/
@[simp] def forL (F : FG) (B : FS) : List Dat → FS
  | [], e, s => .nx e s
  | d :: ds, e, s => (F d e s).flo fun e1 s1 => match B e1 s1 with
    | .nx e2 s2 => forL F B ds e2 s2
    | .ct e2 s2 => forL F B ds e2 s2
    | .bk e2 s2 => .nx e2 s2
    | .rt d s2 => .rt d s2
    | .bad => .bad
@[simp] def sFor (Fi : FA) (F : FG) (B : FS) : FS := fun e s => (Fi e s).flo fun ds s1 => forL F B ds e s1
theorem ds_for {tg iter : Expr} {body : List Stmt} {pos : Pos} {Fi : FA} {F : FG} {B : FS} {is : List Nat} (hp : PassesOwn (model X.prog X.w) X.A X.env X.xe) (hc : X.calm = true) (hi : PI X tg iter (tI G Fi)) (hg : PG X tg (tG G is F)) (hb : PSs X body (tS G B))
    (hs : ∀ x, foldedSetIterable iter X.env x = pure x := by intro _; rfl) : PS X (.For tg iter body [] pos) (tS G (sFor Fi F B)) := PS_imp (ps_for hp hc hi hg hb hs) fun D σ H ⟨w, e, s, I, h⟩ => by
  refine ⟨w, e, s, I, holds_imp (flo_holds h) fun ds s1 h1 w1 H1 J I1 x1 W => ?_⟩
  refine ⟨fun i m σ2 H2 => m = ds.length - i ∧ i ≤ ds.length ∧ ∃ w2 e2 s2, IE G w2 e2 s2 σ2 H2 ∧ FExt w1 H1 w2 H2 ∧ kS G w2 H2 D (forL F B (ds.drop i) e2 s2),
    ⟨ds.length, by omega, Nat.zero_le _, w1, e, s1, I1, .refl, kS_ext x1.f h1⟩, ?_⟩
  rintro i m σ2 H2 ⟨rfl, hi, w2, e2, s2, I2, x2, q⟩
  by_cases hlt : i < ds.length
  · refine .inr ⟨W.go w2 H2 x2 i hlt, fun σ3 H3 => ∃ w3 e3 s3, IE G w3 e3 s3 σ3 H3 ∧ FExt w1 H1 w3 H3 ∧ kS G w3 H3 D (forL F B (ds.drop (i + 1)) e3 s3), fun σ3 H3 ⟨w3, e3, s3, I3, x3, q3⟩ => ⟨ds.length - (i + 1), by omega, rfl, hlt, w3, e3, s3, I3, x3, q3⟩, fun v H3 y => ?_⟩
    obtain ⟨I3, x3, d, hd, rd⟩ := W.yld w2 e2 s2 σ2 H2 H3 i v I2 x2 hlt y
    have ed : ds.drop i = d :: ds.drop (i + 1) := by
      rw [List.drop_eq_getElem_cons hlt]
      rw [List.getElem?_eq_getElem hlt] at hd
      cases hd
      rfl
    rw [ed] at q
    unfold forL at q
    refine ⟨w2, e2, s2, d, I3, rd, holds_imp (flo_holds q) fun e4 s4 h4 w4 σ4 H4 I4 x4 _ _ => ?_⟩
    have x24 : FExt w2 H2 w4 H4 := x3.f.trans x4.f
    refine ⟨w4, e4, s4, I4, ?_⟩
    cases z : B e4 s4 with
    | bad => rw [z] at h4; exact h4
    | nx e5 s5 =>
      rw [z] at h4
      exact fun w5 σ5 H5 I5 x5 => ⟨w5, e5, s5, I5, (x2.trans x24).trans x5, kS_ext (x24.trans x5) h4⟩
    | ct e5 s5 =>
      rw [z] at h4
      exact fun w5 σ5 H5 I5 x5 => ⟨w5, e5, s5, I5, (x2.trans x24).trans x5, kS_ext (x24.trans x5) h4⟩
    | bk e5 s5 =>
      rw [z] at h4
      exact fun w5 σ5 H5 I5 x5 => h4 w5 σ5 H5 I5 (x24.trans x5)
    | rt d5 s5 =>
      rw [z] at h4
      exact fun w5 e6 σ5 v5 H5 I5 x5 => h4 w5 e6 σ5 v5 H5 I5 (x24.trans x5)
  · have e0 : ds.drop i = [] := List.drop_eq_nil_of_le (by omega)
    rw [e0] at q
    exact .inl ⟨W.stop w2 H2 x2 i (by omega), q w2 σ2 H2 I2 .refl⟩

/-! ### while -/
/-- n turns at most -/
def whileN (C : FT) (B : FS) : Nat → FS
  | 0, _, _ => .bad
  | n + 1, e, s => (C e s).flo fun c s1 => if c then (match B e s1 with
    | .nx e2 s2 => whileN C B n e2 s2
    | .ct e2 s2 => whileN C B n e2 s2
    | .bk e2 s2 => .nx e2 s2
    | .rt d s2 => .rt d s2
    | .bad => .bad) else .nx e s1
theorem whileN_more {C : FT} {B : FS} : ∀ (n : Nat) (e : Lcs) (s : Sto), whileN C B n e s ≠ .bad → ∀ m, n ≤ m → whileN C B m e s = whileN C B n e s
  | 0, e, s, h, _, _ => absurd rfl h
  | n + 1, e, s, h, 0, hm => absurd hm (by omega)
  | n + 1, e, s, h, m + 1, hm => by
    unfold whileN at h ⊢
    cases q : C e s with
    | bad => rfl
    | ok c s1 =>
      rw [q] at h
      simp only [flo_ok] at h ⊢
      cases c with
      | false => rfl
      | true =>
        simp only [if_true] at h ⊢
        cases z : B e s1 with
        | bad => rfl
        | nx e2 s2 =>
          rw [z] at h
          exact whileN_more n e2 s2 h m (by omega)
        | ct e2 s2 =>
          rw [z] at h
          exact whileN_more n e2 s2 h m (by omega)
        | bk e2 s2 => rfl
        | rt d s2 => rfl
open Classical in
noncomputable def sWhile (C : FT) (B : FS) : FS := fun e s => if h : ∃ n, whileN C B n e s ≠ .bad then whileN C B (choose h) e s else .bad
theorem while_is {C : FT} {B : FS} {n : Nat} {e : Lcs} {s : Sto} (h : whileN C B n e s ≠ .bad) : sWhile C B e s = whileN C B n e s := by
  have hx : ∃ n, whileN C B n e s ≠ .bad := ⟨n, h⟩
  unfold sWhile
  rw [dif_pos hx]
  have h2 := Classical.choose_spec hx
  rcases Nat.le_total n (Classical.choose hx) with q | q
  · exact whileN_more n e s h _ q
  · exact (whileN_more _ e s h2 _ q).symm
theorem while_ex {C : FT} {B : FS} {e : Lcs} {s : Sto} (h : sWhile C B e s ≠ .bad) : ∃ n, whileN C B n e s = sWhile C B e s ∧ whileN C B n e s ≠ .bad := by
  by_cases hx : ∃ n, whileN C B n e s ≠ .bad
  · obtain ⟨n, hn⟩ := hx
    exact ⟨n, (while_is hn).symm, hn⟩
  · exact absurd (by unfold sWhile; rw [dif_neg hx]) h
/-- one turn -/
theorem while_step (C : FT) (B : FS) (e : Lcs) (s : Sto) : sWhile C B e s = (C e s).flo fun c s1 => if c then (match B e s1 with
    | .nx e2 s2 => sWhile C B e2 s2
    | .ct e2 s2 => sWhile C B e2 s2
    | .bk e2 s2 => .nx e2 s2
    | .rt d s2 => .rt d s2
    | .bad => .bad) else .nx e s1 := by
  have go : ∀ (e2 : Lcs) (s2 : Sto) (k : ∀ n, whileN C B (n + 1) e s = whileN C B n e2 s2), sWhile C B e s = sWhile C B e2 s2 := fun e2 s2 k => by
    by_cases hx : ∃ n, whileN C B n e2 s2 ≠ .bad
    · obtain ⟨n, hn⟩ := hx
      rw [while_is hn, ← k n, while_is (by rw [k n]; exact hn)]
    · have h1 : ¬ ∃ n, whileN C B n e s ≠ .bad := fun ⟨n, hn⟩ => by
        cases n with
        | zero => exact hn rfl
        | succ n => exact hx ⟨n, by rw [← k n]; exact hn⟩
      unfold sWhile
      rw [dif_neg hx, dif_neg h1]
  cases q : C e s with
  | bad =>
    have h1 : ¬ ∃ n, whileN C B n e s ≠ .bad := fun ⟨n, hn⟩ => by
      cases n with
      | zero => exact hn rfl
      | succ n => exact hn (by unfold whileN; rw [q]; rfl)
    unfold sWhile
    rw [dif_neg h1]; rfl
  | ok c s1 =>
    cases c with
    | false => exact while_is (n := 1) (by unfold whileN; rw [q]; simp) |>.trans (by unfold whileN; rw [q]; simp)
    | true =>
      cases z : B e s1 with
      | bad =>
        have h1 : ¬ ∃ n, whileN C B n e s ≠ .bad := fun ⟨n, hn⟩ => by
          cases n with
          | zero => exact hn rfl
          | succ n => exact hn (by unfold whileN; rw [q]; simp [z])
        unfold sWhile
        rw [dif_neg h1]; simp [z]
      | nx e2 s2 =>
        rw [go e2 s2 fun n => by conv => lhs; unfold whileN
                                 rw [q]; simp [z]]
        simp [z]
      | ct e2 s2 =>
        rw [go e2 s2 fun n => by conv => lhs; unfold whileN
                                 rw [q]; simp [z]]
        simp [z]
      | bk e2 s2 => exact (while_is (n := 1) (by unfold whileN; rw [q]; simp [z])).trans (by unfold whileN; rw [q]; simp [z])
      | rt d s2 => exact (while_is (n := 1) (by unfold whileN; rw [q]; simp [z])).trans (by unfold whileN; rw [q]; simp [z])
theorem ds_while {c : Expr} {body : List Stmt} {pos : Pos} {C : FT} {B : FS} (hp : PassesOwn (model X.prog X.w) X.A X.env X.xe) (hc : PT X c (tT G C)) (hb : PSs X body (tS G B)) : PS X (.While c body [] pos) (tS G (sWhile C B)) := PS_imp (ps_while hp hc hb) fun D σ H ⟨w, e, s, I, h⟩ => by
  have nb : sWhile C B e s ≠ .bad := fun z => by rw [z] at h; exact h
  obtain ⟨n, e1, e2⟩ := while_ex nb
  refine ⟨fun m σ2 H2 => ∃ w2 e2 s2, IE G w2 e2 s2 σ2 H2 ∧ FExt w H w2 H2 ∧ kS G w2 H2 D (whileN C B m e2 s2), ⟨n, w, e, s, I, .refl, by rw [e1]; exact h⟩, ?_⟩
  rintro m σ2 H2 ⟨w2, e2, s2, I2, x2, q⟩
  cases m with
  | zero => exact q.elim
  | succ m =>
    unfold whileN at q
    refine ⟨w2, e2, s2, I2, holds_imp (flo_holds q) fun b s3 h3 w3 H3 I3 x3 => ?_⟩
    cases b with
    | false => exact iteF (h3 w3 σ2 H3 I3 x3.f)
    | true =>
      refine iteT ⟨fun σ4 H4 => ∃ w4 e4 s4, IE G w4 e4 s4 σ4 H4 ∧ FExt w H w4 H4 ∧ kS G w4 H4 D (whileN C B m e4 s4), fun σ4 H4 k => ⟨m, Nat.lt_succ_self _, k⟩, w3, e2, s3, I3, ?_⟩
      simp only [if_true] at h3
      cases z : B e2 s3 with
      | bad => rw [z] at h3; exact h3
      | nx e5 s5 =>
        rw [z] at h3
        exact fun w5 σ5 H5 I5 x5 => ⟨w5, e5, s5, I5, (x2.trans x3.f).trans x5, kS_ext (x3.f.trans x5) h3⟩
      | ct e5 s5 =>
        rw [z] at h3
        exact fun w5 σ5 H5 I5 x5 => ⟨w5, e5, s5, I5, (x2.trans x3.f).trans x5, kS_ext (x3.f.trans x5) h3⟩
      | bk e5 s5 =>
        rw [z] at h3
        exact fun w5 σ5 H5 I5 x5 => h3 w5 σ5 H5 I5 (x3.f.trans x5)
      | rt d5 s5 =>
        rw [z] at h3
        exact fun w5 e6 σ5 v5 H5 I5 x5 => h3 w5 e6 σ5 v5 H5 I5 (x3.f.trans x5)
end
end DL

namespace DL
open PySem PySem.Spec PyProof.Rows L2
section
variable {X : Cx} {G : Gx}

/-! ### comprehensions -/
@[simp] def wipeE (e : Lcs) : List Nat → Lcs
  | [] => e
  | v :: vs => (wipeE e vs).set v .un
theorem IE.wipe1 {w : Wd} {e : Lcs} {s : Sto} {σ : L2.St} {H : Hp} (I : IE G w e s σ H) (i : Nat) : IE G w (e.set i .un) s (σ.set i none) H := by
  have nf : ∀ {j : Nat} {z : Slt}, z ≠ .un → (e.set i .un)[j]? = some z → i ≠ j ∧ e[j]? = some z := fun {j z} hz h => by
    by_cases q : i = j
    · subst q
      by_cases hi : i < e.length
      · rw [List.getElem?_set_self hi] at h; cases h; exact absurd rfl hz
      · rw [List.getElem?_eq_none (by rw [List.length_set]; omega)] at h; cases h
    · rw [List.getElem?_set_ne q] at h; exact ⟨q, h⟩
  refine ⟨by rw [List.length_set, List.length_set]; exact I.len, fun j d h => ?_, fun j ds h => ?_, fun a b q es fs k1 k2 k3 k4 => ?_, I.slen, I.cells, I.nd, I.dis, I.beg, I.o0, I.there, I.keep, I.cfresh⟩
  · obtain ⟨q, h'⟩ := nf (by simp) h
    rw [List.getElem?_set_ne q]
    exact I.slot j d h'
  · obtain ⟨q, h'⟩ := nf (by simp) h
    rw [List.getElem?_set_ne q]
    exact I.own j ds h'
  · obtain ⟨q1, h1⟩ := nf (by simp) k1
    obtain ⟨q2, h2⟩ := nf (by simp) k2
    rw [List.getElem?_set_ne q1] at k3
    rw [List.getElem?_set_ne q2] at k4
    exact I.inj a b q es fs h1 h2 k3 k4
theorem IE.wipe {w : Wd} {e : Lcs} {s : Sto} {σ : L2.St} {H : Hp} (I : IE G w e s σ H) : ∀ vs : List Nat, IE G w (wipeE e vs) s (wipe σ vs) H
  | [] => I
  | v :: vs => (IE.wipe I vs).wipe1 v
theorem wipe_get {σ : L2.St} {i : Nat} : ∀ {vs : List Nat}, i ∉ vs → (wipe σ vs)[i]? = σ[i]?
  | [], _ => rfl
  | v :: vs, h => by
    unfold L2.wipe
    rw [List.getElem?_set_ne fun (z : v = i) => h (by rw [z]; simp)]
    exact wipe_get fun z => h (List.mem_cons_of_mem _ z)
theorem wipe_in {σ : L2.St} {i : Nat} (hi : i < σ.length) : ∀ {vs : List Nat}, i ∈ vs → (wipe σ vs)[i]? = some none
  | v :: vs, h => by
    unfold L2.wipe
    by_cases z : v = i
    · subst z
      rw [List.getElem?_set_self (by rw [wipe_length]; exact hi)]
    · rw [List.getElem?_set_ne z]
      exact wipe_in hi ((List.mem_cons.mp h).resolve_left fun q => z q.symm)
theorem wipe_eq {σ σ' : L2.St} {vs : List Nat} (hl : σ'.length = σ.length) (h : ∀ i, i ∉ vs → σ'[i]? = σ[i]?) : wipe σ' vs = wipe σ vs := by
  apply List.ext_getElem?
  intro i
  by_cases hi : i ∈ vs
  · by_cases hl' : i < σ.length
    · rw [wipe_in hl' hi, wipe_in (by rw [hl]; exact hl') hi]
    · rw [List.getElem?_eq_none (by rw [wipe_length, hl]; omega), List.getElem?_eq_none (by rw [wipe_length]; omega)]
  · rw [wipe_get hi, wipe_get hi, h i hi]
@[simp] def lcL (F : FG) (C : FT) (Fe : FE) (e : Lcs) : List Dat → Sto → Res (List Dat)
  | [], s => .ok [] s
  | d :: ds, s => (F d e s).bind fun e1 s1 => (C e1 s1).bind fun b s2 => if b then (Fe e1 s2).bind fun y s3 => (lcL F C Fe e ds s3).bind fun ys s4 => .ok (y :: ys) s4 else lcL F C Fe e ds s2
@[simp] def fLc (Fi : FA) (F : FG) (C : FT) (Fe : FE) (vs : List Nat) : FE := fun e s => (Fi e s).bind fun ds s1 => if decide (ds.length < sizeLine) then (lcL F C Fe (wipeE e vs) ds s1).bind fun ys s2 => .ok (.list ys) s2 else .bad
@[simp] def cYes : FT := fun _ s => .ok true s
theorem dt_yes {σ : L2.St} {H : Hp} {Q : Bool → Hp → Prop} (h : tT G cYes σ H Q) : tYes σ H Q := by
  obtain ⟨w, e, s, I, h⟩ := h
  exact h w H I .refl
theorem PTs_imp {a : List Expr} {t t' : TT} (h : PTs X a t) (k : ∀ σ H Q, t' σ H Q → t σ H Q) : PTs X a t' := ⟨fun pins s σ H Q I q => h.run pins s σ H Q I (k _ _ _ q)⟩
theorem dts_nil : PTs X [] (tT G cYes) := PTs_imp pts_nil fun _ _ _ h => dt_yes h
theorem dts_one {c : Expr} {C : FT} (h : PT X c (tT G C)) : PTs X [c] (tT G C) := pts_one h
theorem lc_of {Fi : FA} {F : FG} {C : FT} {Fe : FE} {vs is : List Nat} (his : ∀ i ∈ is, i ∈ vs) {σ : L2.St} {H : Hp} {Q : VK} (h : tE G (fLc Fi F C Fe vs) σ H Q) : tLc (tI G Fi) (tG G is F) (tT G C) (tE G Fe) vs σ H Q := by
  obtain ⟨w, e, s, I, h⟩ := h
  refine ⟨w, e, s, I, holds_imp (holds_bind h) fun ds s1 h1 w1 H1 J I1 x1 W D hD => ?_⟩
  have hz : ds.length < sizeLine := by
    by_cases q : ds.length < sizeLine
    · exact q
    · rw [if_neg (by simpa using q)] at h1
      exact h1.elim
  rw [if_pos (by simpa using hz)] at h1
  -- the new list is the loop's own
  have lone : Lone (wipeE e vs) (wipe σ vs) D := (I1.wipe vs).lone hD
  have d0 : G.H0 D = none := I1.fresh0 hD
  have dn : ¬ w1.ow D := I1.freshO hD
  have d00 : ¬ G.O0 D := I1.freshO0 hD
  have I2 : IE G (w1.plus D) (wipeE e vs) s1 (wipe σ vs) (upd H1 D (.lst [])) := (I1.wipe vs).plus hD
  refine ⟨fun i m H2 => m = ds.length - i ∧ i ≤ ds.length ∧ ∃ w2 s2 acc avs, IE G w2 (wipeE e vs) s2 (wipe σ vs) H2 ∧ FExt w1 H1 w2 H2 ∧ w2.ow = (w1.plus D).ow ∧ (∀ a, w1.ow a → H2 a = H1 a) ∧ H2 D = some (.lst avs) ∧ RpL G.K w2.as (Fz w2 H2) acc avs ∧ acc.length ≤ i ∧
      (lcL F C Fe (wipeE e vs) (ds.drop i) s2).holds fun ys s3 => kE G w1 e σ H1 Q (.list (acc ++ ys)) s3,
    ⟨ds.length, by omega, Nat.zero_le _, w1.plus D, s1, [], [], I2, plus_f hD, rfl, fun a ha => upd_ne fun (z : a = D) => dn (by rw [← z]; exact ha), upd_same, RpL.nil, Nat.le_refl _, ?_⟩, ?_⟩
  · refine holds_imp (holds_bind h1) fun ys s2 h2 => ?_
    exact kE_ext x1 h2
  rintro i m H2 ⟨rfl, hi, w2, s2, acc, avs, J2, x2, o2, k2, hD2, ra, la, q⟩
  have owD : w2.ow D := by rw [o2]; exact .inr rfl
  by_cases hlt : i < ds.length
  · refine .inr ⟨W.go w2 H2 x2 i hlt, fun H3 => ∃ w3 s3 acc avs, IE G w3 (wipeE e vs) s3 (wipe σ vs) H3 ∧ FExt w1 H1 w3 H3 ∧ w3.ow = (w1.plus D).ow ∧ (∀ a, w1.ow a → H3 a = H1 a) ∧ H3 D = some (.lst avs) ∧ RpL G.K w3.as (Fz w3 H3) acc avs ∧ acc.length ≤ i + 1 ∧
        (lcL F C Fe (wipeE e vs) (ds.drop (i + 1)) s3).holds fun ys s4 => kE G w1 e σ H1 Q (.list (acc ++ ys)) s4, fun H3 k => ⟨ds.length - (i + 1), by omega, rfl, hlt, k⟩, fun v H3 y => ?_⟩
    obtain ⟨J3, x3, d, hd, rd⟩ := W.yld w2 _ s2 _ H2 H3 i v J2 x2 hlt y
    have ed : ds.drop i = d :: ds.drop (i + 1) := by
      rw [List.drop_eq_getElem_cons hlt]
      rw [List.getElem?_eq_getElem hlt] at hd
      cases hd
      rfl
    rw [ed] at q
    unfold lcL at q
    -- what is true behind any expression of the turn
    have on : ∀ {w5 : Wd} {H5 : Hp}, EExt w2 H2 w5 H5 → FExt w1 H1 w5 H5 ∧ w5.ow = (w1.plus D).ow ∧ (∀ a, w1.ow a → H5 a = H1 a) ∧ H5 D = some (.lst avs) ∧ RpL G.K w5.as (Fz w5 H5) acc avs := fun {w5 H5} x =>
      ⟨x2.trans x.f, x.ow.trans o2, fun a ha => (x.own a (by rw [o2]; exact .inl ha)).trans (k2 a ha), (x.own D owD).trans hD2, x.rpl ra⟩
    refine ⟨w2, wipeE e vs, s2, d, J3, rd, holds_imp (holds_bind q) fun e4 s4 h4 w4 σ4 H4 I4 x4 a4 l4 => ?_⟩
    have hw : wipe σ4 vs = wipe σ vs := by
      have e1 : wipe σ4 vs = wipe (wipe σ vs) vs := wipe_eq l4 fun j hj => a4 j fun z => hj (his j z)
      have e2 : wipe (wipe σ vs) vs = wipe σ vs := wipe_eq (wipe_length σ vs) fun j hj => wipe_get hj
      exact e1.trans e2
    refine ⟨hw, w4, e4, s4, I4, holds_imp (holds_bind h4) fun b s5 h5 w5 H5 I5 x5 => ?_⟩
    have x25 := x3.trans (x4.trans x5)
    cases b with
    | true =>
      simp only [if_true] at h5
      refine iteT ⟨w5, e4, s5, I5, holds_imp (holds_bind h5) fun y s6 h6 w6 yv H6 I6 x6 r6 => ?_⟩
      have x26 := x25.trans x6
      obtain ⟨g1, g2, g3, g4, g5⟩ := on x26
      refine ⟨avs, g4, by rw [ra.length]; omega, ?_⟩
      have J6 : IE G w6 (wipeE e vs) s6 (wipe σ vs) H6 := J2.re x26 I6
      have ow6 : w6.ow D := by rw [g2]; exact .inr rfl
      refine ⟨w6, s6, acc ++ [y], avs ++ [yv], J6.write ow6 d0 lone, g1.trans (write_f ow6), g2, fun a ha => ?_, upd_same, ?_, by simp; omega, ?_⟩
      · rw [upd_ne fun (z : a = D) => dn (by rw [← z]; exact ha)]
        exact g3 a ha
      · rw [Fz_own ow6]
        exact g5.append (RpL.one r6)
      · refine holds_imp (holds_bind h6) fun ys s7 h7 => ?_
        have h7' : kE G w1 e σ H1 Q (.list (acc ++ (y :: ys))) s7 := h7
        rw [List.append_assoc]
        exact h7'
    | false =>
      simp only [Bool.false_eq_true, if_false] at h5
      obtain ⟨g1, g2, g3, g4, g5⟩ := on x25
      exact iteF ⟨w5, s5, acc, avs, J2.re x25 I5, g1, g2, g3, g4, g5, by omega, h5⟩
  · have e0 : ds.drop i = [] := List.drop_eq_nil_of_le (by omega)
    rw [e0] at q
    refine .inl ⟨W.stop w2 H2 x2 i (by omega), ?_⟩
    have q' : kE G w1 e σ H1 Q (.list (acc ++ [])) s2 := q
    rw [List.append_nil] at q'
    -- the list is no one's own any more
    have sm2 : Same (Fz w2 H2) (Fz ⟨w2.as, w1.ow⟩ H2) := fun a o h => by
      obtain ⟨z1, z2, z3⟩ := Fz_get h
      exact Fz_of z1 z2 fun z => z3 (by rw [o2]; exact .inl z)
    have ex : EExt w1 H1 ⟨w2.as, w1.ow⟩ H2 := ⟨x2.beg, x2.same.trans sm2, rfl, k2⟩
    have J : IE G ⟨w2.as, w1.ow⟩ (wipeE e vs) s2 (wipe σ vs) H2 := by
      refine ⟨J2.len, fun j d h => ?_, fun j es h => ?_, J2.inj, J2.slen, fun n es h => ?_, J2.nd, fun a ha z => J2.dis a ha (by rw [o2]; exact .inl z), J2.beg, fun a ha => ?_, fun a ha => J2.there a (by rw [o2]; exact .inl ha), J2.keep, J2.cfresh⟩
      · obtain ⟨v, z1, z2⟩ := J2.slot j d h
        exact ⟨v, z1, Rp.mono (.refl _) sm2 _ _ z2⟩
      · obtain ⟨p, us, z1, z2, z3, z4, z5, z6⟩ := J2.own j es h
        refine ⟨p, us, z1, ?_, z3, z4, z5, RpL.mono (.refl _) sm2 _ _ z6⟩
        rw [o2] at z2
        rcases z2 with z2 | z2
        · exact z2
        · subst z2; exact absurd z1 (lone j es h)
      · obtain ⟨a, us, z1, z2, z3⟩ := J2.cells n es h
        exact ⟨a, us, z1, z2, RpL.mono (.refl _) sm2 _ _ z3⟩
      · exact I1.o0 a ha
    refine q' ⟨w2.as, w1.ow⟩ (.ref D) H2 (I1.re ex J) ex ?_
    simp only [Rp]
    exact ⟨D, avs, rfl, Fz_of hD2 (fun z => J2.dis D z owD) dn, RpL.mono (.refl _) sm2 _ _ ra⟩
theorem de_lc {elt tg iter : Expr} {ifs : List Expr} {scope : Scope} {own : List (Str × Nat)} {pos : Pos} {Fi : FA} {F : FG} {C : FT} {Fe : FE} {is : List Nat} (hc : X.calm = true) (hN : X.N.Nodup) (ok : BlkOk X.N X.env.scope scope own) (hi : PI X tg iter (tI G Fi))
    (hg : ∀ (s : Shared) (H : Hp) (A : Addr) (cl : List (Str × Addr)) (fp : List Addr), PG (X.blk s H scope (compEnvC scope cl A X.env) fp) tg (tG G is F)) (ht : ∀ (s : Shared) (H : Hp) (A : Addr) (cl : List (Str × Addr)) (fp : List Addr), PTs (X.blk s H scope (compEnvC scope cl A X.env) fp) ifs (tT G C))
    (he : ∀ (s : Shared) (H : Hp) (A : Addr) (cl : List (Str × Addr)) (fp : List Addr), PE (X.blk s H scope (compEnvC scope cl A X.env) fp) elt (tE G Fe)) (his : ∀ i ∈ is, i ∈ own.map (·.2) := by decide) (hs : ∀ x, foldedSetIterable iter X.env x = pure x := by intro _; rfl) :
    PE X (.ListComp elt [⟨tg, iter, ifs, 0⟩] scope pos) (tE G (fLc Fi F C Fe (own.map (·.2)))) := PE_imp (pe_lc hc hN hi ok hg ht he hs) fun _ _ _ h => lc_of his h
theorem ds_setLc (i : Nat) {y : Str} {py : Pos} {elt tg iter : Expr} {ifs : List Expr} {scope : Scope} {own : List (Str × Nat)} {pos spos : Pos} {Fi : FA} {F : FG} {C : FT} {Fe : FE} {is : List Nat} (hc : X.calm = true) (hN : X.N.Nodup) (ok : BlkOk X.N X.env.scope scope own)
    (hsw : swapsWith (.ListComp elt [⟨tg, iter, ifs, 0⟩] scope pos) (some (.Name y py)) spos.line X.env = pure true) (hi : PI X tg iter (tI G Fi))
    (hg : ∀ (s : Shared) (H : Hp) (A : Addr) (cl : List (Str × Addr)) (fp : List Addr), PG (X.blk s H scope (compEnvC scope cl A X.env) fp) tg (tG G is F)) (ht : ∀ (s : Shared) (H : Hp) (A : Addr) (cl : List (Str × Addr)) (fp : List Addr), PTs (X.blk s H scope (compEnvC scope cl A X.env) fp) ifs (tT G C))
    (he : ∀ (s : Shared) (H : Hp) (A : Addr) (cl : List (Str × Addr)) (fp : List Addr), PE (X.blk s H scope (compEnvC scope cl A X.env) fp) elt (tE G Fe)) (hy : X.N[i]? = some y := by rfl) (hyl : X.env.scope.names.lookup y = some .local := by rfl)
    (his : ∀ i ∈ is, i ∈ own.map (·.2) := by decide) (hs : ∀ x, foldedSetIterable iter X.env x = pure x := by intro _; rfl) :
    PS X (.Assign [.Name y py] (.ListComp elt [⟨tg, iter, ifs, 0⟩] scope pos) spos) (tS G (sSet i (fLc Fi F C Fe (own.map (·.2))))) :=
  PS_imp (ps_setLc hc hN hy hyl hsw hi ok hg ht he hs) fun D σ H h => by
    obtain ⟨w, e, s, I, h'⟩ := tAsg_of (is := [i]) h
    exact lc_of his ⟨w, e, s, I, holds_imp h' fun d s1 k w1 v H1 I1 x1 r1 => gName_of (k w1 v H1 I1 x1 r1) (by simp)⟩

/-! ### defs -/
structure CI (K : PySem.W.Frag) (w : Wd) (s : Sto) (H : Hp) : Prop where
  slen : w.as.length = s.length
  cells : ∀ (n : Nat) ds, s[n]? = some (.ls ds) → ∃ a vs, w.as[n]? = some a ∧ H a = some (.lst vs) ∧ RpL K w.as (Fz w H) ds vs
  nd : w.as.Nodup
  dis : ∀ a ∈ w.as, ¬ w.ow a
  there : ∀ a, w.ow a → H a ≠ none
/-- a def that hands back what g says of its arguments and the cells -/
def spF (K : PySem.W.Frag) (g : List Dat → Sto → Res Dat) : Sp := fun vs H Q _ => ∃ w ds s, CI K w s H ∧ RpL K w.as (Fz w H) ds vs ∧ (g ds s).holds fun d s' =>
  ∀ w' v H', w'.ow = w.ow → Beg w.as w'.as → CI K w' s' H' → Same (Fz w H) (Fz w' H') → (∀ a o, H a = some o → a ∉ w.as → H' a = some o) → (∀ a, a ∈ w'.as → a ∉ w.as → H a = none) → Rp K w'.as (Fz w' H') d v → Q v H'
theorem IE.ci {w : Wd} {e : Lcs} {s : Sto} {σ : L2.St} {H : Hp} (I : IE G w e s σ H) : CI G.K w s H := ⟨I.slen, I.cells, I.nd, I.dis, I.there⟩
@[simp] def runF (n m : Nat) (F : FS) : List Dat → Sto → Res Dat := fun ds s => if ds.length = n then (match F (ds.map Slt.fz ++ List.replicate (m - n) Slt.un) s with
  | .nx _ s' => .ok .none s'
  | .rt d s' => .ok d s'
  | _ => .bad) else .bad
theorem de_call {x : Str} {p pos : Pos} {a : Expr} {es : List Expr} {CX : CXT} {k : Nat} {f : Addr} {fd : FuncData} {ps : List Str} {g : List Dat → Sto → Res Dat} {Fs : FA} {E : XK} (GF : FnOk X.prog X.w X.K X.mg X.base CX k f fd ps (spF G.K g)) (hr : Room k X.A)
    (hm : X.mg x = some (.ref f)) (hk : PySem.W.keepIn X.K (.ref f) = true) (hb : Binds X.K fd ps []) (hx : Passes CX X E) (ha : PA X (a :: es) (tA G Fs)) (hg : Gl X x := by rfl) (hdb : (x == ("__debug__" : Str)) = false := by decide)
    (he : starEach (a :: es) X.env = (false, eval a X.env) :: starEach es X.env := by rfl) (hpl : (backTo pos (starEach es X.env)).any (·.1) = false := by rfl) : PE X (.Call (.Name x p) (a :: es) [] pos) (tE G (fCall g Fs)) :=
  PE_imp (pe_call GF hr hg hm hk hb .nil hx ha hdb he hpl) fun σ H Q ⟨w, e, s, I, h⟩ => by
    unfold fCall at h
    cases q : Fs e s with
    | bad => rw [q] at h; exact h.elim
    | ok ds s1 =>
      rw [q] at h
      refine ⟨w, e, s, I, ?_⟩
      rw [q]
      intro w1 vs H1 I1 x1 r1
      refine ⟨w1, ds, s1, I1.ci, by rw [List.append_nil]; exact r1, holds_imp h fun d s2 h2 w2 v H2 o2 b2 c2 sm2 kp2 nw2 r2 => ?_⟩
      have ex : EExt w1 H1 w2 H2 := ⟨b2, sm2, o2, fun b hb => by
        cases z : H1 b with
        | none => exact absurd z (I1.there b hb)
        | some o => exact kp2 b o z fun y => I1.dis b y hb⟩
      refine h2 w2 v H2 ?_ (x1.trans ex) r2
      refine I1.re ex (e2 := []) (σ2 := []) ⟨rfl, fun i d h => by simp at h, fun i d h => by simp at h, fun i j p ds es h => by simp at h, c2.slen, c2.cells, c2.nd, c2.dis, I1.beg.trans b2, fun b hb => by rw [o2]; exact I1.o0 b hb, c2.there, fun b o h0 hb => ?_, fun b hb hb0 => ?_⟩
      · refine kp2 b o (I1.keep b o h0 hb) fun z => ?_
        have := I1.cfresh b z hb
        rw [h0] at this; cases this
      · by_cases z : b ∈ w1.as
        · exact I1.cfresh b z hb0
        · exact I1.fresh0 (nw2 b hb z)
theorem start_get {N : List Str} {vs : List V} {i : Nat} {v : V} (h : vs[i]? = some v) : (L2.start N vs)[i]? = some (some v) := by
  unfold L2.start
  rw [List.getElem?_append_left (by rw [List.length_map]; exact (List.getElem?_eq_some_iff.mp h).1), List.getElem?_map, h]; rfl
theorem ie_start {K : PySem.W.Frag} {w : Wd} {s : Sto} {H : Hp} {N : List Str} {ds : List Dat} {vs : List V} (c : CI K w s H) (r : RpL K w.as (Fz w H) ds vs) (hl : ds.length ≤ N.length) :
    IE ⟨K, H, w.as, w.ow⟩ w (ds.map Slt.fz ++ List.replicate (N.length - ds.length) Slt.un) s (L2.start N vs) H := by
  have look : ∀ {i : Nat} {z : Slt}, (ds.map Slt.fz ++ List.replicate (N.length - ds.length) Slt.un)[i]? = some z → z = .un ∨ ∃ d, z = .fz d ∧ ds[i]? = some d := fun {i z} h => by
    by_cases hi : i < ds.length
    · rw [List.getElem?_append_left (by rw [List.length_map]; exact hi), List.getElem?_map, List.getElem?_eq_getElem hi] at h
      cases h
      exact .inr ⟨_, rfl, List.getElem?_eq_getElem hi⟩
    · rw [List.getElem?_append_right (by rw [List.length_map]; omega), List.getElem?_replicate] at h
      split at h
      · cases h; exact .inl rfl
      · cases h
  refine ⟨?_, fun i d h => ?_, fun i es h => ?_, fun i j p es fs h => ?_, c.slen, c.cells, c.nd, c.dis, .refl _, fun _ h => h, c.there, fun _ _ h _ => h, fun a h h' => absurd h h'⟩
  · unfold L2.start
    rw [List.length_append, List.length_append, List.length_map, List.length_map, List.length_replicate, List.length_replicate, r.length]
  · rcases look h with z | ⟨d', z, h'⟩
    · cases z
    · cases z
      obtain ⟨v, h1, h2⟩ := r.get' h'
      exact ⟨v, start_get h1, h2⟩
  · rcases look h with z | ⟨d', z, _⟩ <;> cases z
  · rcases look h with z | ⟨d', z, _⟩ <;> cases z
/-- THE RULE for a def that lets out no exception -/
theorem def_ok {P : Program} {wd : World} {K : PySem.W.Frag} {mg : Str → Option Value} {base : Heap} {x qual : Str} {st : Stmt} {f : Addr} {fd : FuncData} {N ps : List Str} {k : Nat} {F : FS} (D : Fun K x qual st f fd) (S : FnScope N ps (defScope st)) (hl : ps.length ≤ N.length)
    (hbody : ∀ (cdv : Value) (A : Around) (outer : List Env) (s : Shared) (H : Hp) (E : XK) (H0 : Hp) (as0 : List Addr) (O0 : Addr → Prop), Room k (A.deeper (envOfC qual (defScope st) s.heap.objs.size f cdv)) → PSs (cxOf CX0 P wd K mg base N qual (defScope st) f cdv A outer s H E).nox (defBody st) (tS ⟨K, H0, as0, O0⟩ F)) :
    FnOk P wd K mg base CX0 (k + 1) f fd ps (spF K (runF ps.length N.length F)) := by
  have hlen : ∀ vs H Q E, spF K (runF ps.length N.length F) vs H Q E → vs.length = ps.length := fun vs H Q E h => by
    obtain ⟨w, ds, st0, c, r, h⟩ := h
    unfold runF at h
    split at h
    · rename_i hd
      rw [r.length]; exact hd
    · exact h.elim
  refine D.ok S hlen fun cdv A outer s H vs Q E hr h => ?_
  have hv := hlen vs H Q E h
  obtain ⟨w, ds, st0, c, r, h⟩ := h
  refine ⟨_, hbody cdv A outer s H E H w.as w.ow hr, ?_⟩
  have hd : ds.length = ps.length := by rw [← r.length]; exact hv
  unfold runF at h
  rw [if_pos hd] at h
  have I := ie_start (N := N) c r (by rw [hd]; exact hl)
  rw [hd] at I
  refine ⟨w, _, st0, I, ?_⟩
  -- behind the body: the def's own lists stand still
  have fin : ∀ {e' : Lcs} {s' : Sto} {σ' : L2.St} {w' : Wd} {H' : Hp} {d : Dat} {v : V}, IE ⟨K, H, w.as, w.ow⟩ w' e' s' σ' H' → Rp K w'.as (Fz w' H') d v →
      (∀ w' v H', w'.ow = w.ow → Beg w.as w'.as → CI K w' s' H' → Same (Fz w H) (Fz w' H') → (∀ a o, H a = some o → a ∉ w.as → H' a = some o) → (∀ a, a ∈ w'.as → a ∉ w.as → H a = none) → Rp K w'.as (Fz w' H') d v → Q v H') → Q v H' := fun {e' s' σ' w' H' d v} J rv hq => by
    have sm : Same (Fz w' H') (Fz ⟨w'.as, w.ow⟩ H') := fun a o h => by
      obtain ⟨z1, z2, z3⟩ := Fz_get h
      exact Fz_of z1 z2 fun z => z3 (J.o0 a z)
    have kp : ∀ a o, H a = some o → a ∉ w.as → H' a = some o := J.keep
    refine hq ⟨w'.as, w.ow⟩ v H' rfl J.beg ⟨J.slen, fun n es h => ?_, J.nd, fun a ha z => J.dis a ha (J.o0 a z), fun a ha => J.there a (J.o0 a ha)⟩ (fun a o h => ?_) kp J.cfresh (Rp.mono (.refl _) sm _ _ rv)
    · obtain ⟨a, us, z1, z2, z3⟩ := J.cells n es h
      exact ⟨a, us, z1, z2, RpL.mono (.refl _) sm _ _ z3⟩
    · obtain ⟨z1, z2, z3⟩ := Fz_get h
      refine Fz_of (kp a o z1 z2) (fun z => ?_) z3
      have := J.cfresh a z z2
      have z1' : H a = some o := z1
      rw [show H a = none from this] at z1'
      cases z1'
  cases q : F (ds.map Slt.fz ++ List.replicate (N.length - ps.length) Slt.un) st0 with
  | bad => rw [q] at h; exact h
  | nx e1 s1 =>
    rw [q] at h
    exact fun w1 σ1 H1 I1 x1 => fin I1 (rp_n) h
  | bk e1 s1 => rw [q] at h; exact h.elim
  | ct e1 s1 => rw [q] at h; exact h.elim
  | rt d s1 =>
    rw [q] at h
    exact fun w1 e1 σ1 v H1 I1 x1 r1 => fin I1 r1 h
end
end DL

namespace DL
open PySem PySem.Spec PyProof.Rows L2
section
variable {X : Cx} {G : Gx}

/-! ### cells: lists that several defs share -/
section
variable {w : Wd} {e : Lcs} {s : Sto} {σ : L2.St} {H : Hp}
theorem Fz_cell {p : Addr} {o : HO} (hp : H p = none) : Fz ⟨w.as ++ [p], w.ow⟩ (upd H p o) = Fz w H := by
  funext a
  unfold Fz
  by_cases ha : a = p
  · subst ha
    rw [if_pos (.inl (by simp))]
    split
    · rfl
    · rw [hp]
  · by_cases h : a ∈ w.as ∨ w.ow a
    · rw [if_pos h, if_pos (h.elim (fun q => .inl (List.mem_append_left _ q)) .inr)]
    · rw [if_neg h, if_neg (by
        rintro (q | q)
        · rcases List.mem_append.mp q with q | q
          · exact h (.inl q)
          · exact ha (by simpa using q)
        · exact h (.inr q)), upd_ne ha]
theorem IE.newCell (I : IE G w e s σ H) {p : Addr} {vs : List V} {ds : List Dat} (hp : H p = none) (r : RpL G.K w.as (Fz w H) ds vs) : IE G ⟨w.as ++ [p], w.ow⟩ e (s ++ [.ls ds]) σ (upd H p (.lst vs)) := by
  have ef : Fz ⟨w.as ++ [p], w.ow⟩ (upd H p (.lst vs)) = Fz w H := Fz_cell hp
  have hb : Beg w.as (w.as ++ [p]) := ⟨[p], rfl⟩
  have hx : ∀ {a : Addr} {u : HO}, H a = some u → upd H p (.lst vs) a = some u := fun {a u} h => by rw [upd_ne (ne_of_none h hp)]; exact h
  refine ⟨I.len, fun i d h => ?_, fun i ds h => ?_, I.inj, by simp [I.slen], fun n es h => ?_, ?_, fun a ha => ?_, I.beg.trans hb, I.o0, fun a h => ?_, fun a u h h' => hx (I.keep a u h h'), fun a ha h0 => ?_⟩
  · obtain ⟨v, h1, h2⟩ := I.slot i d h
    exact ⟨v, h1, by rw [ef]; exact Rp.mono hb (.refl _) _ _ h2⟩
  · obtain ⟨q, us, h1, h2, h3, h4, h5, h6⟩ := I.own i ds h
    exact ⟨q, us, h1, h2, h3, h4, hx h5, by rw [ef]; exact RpL.mono hb (.refl _) _ _ h6⟩
  · by_cases hn : n < s.length
    · rw [List.getElem?_append_left hn] at h
      obtain ⟨a, us, h1, h2, h3⟩ := I.cells n es h
      exact ⟨a, us, hb.get h1, hx h2, by rw [ef]; exact RpL.mono hb (.refl _) _ _ h3⟩
    · rw [List.getElem?_append_right (by omega)] at h
      have hn2 : n = s.length := by
        by_cases q : n - s.length = 0
        · omega
        · rw [List.getElem?_eq_none (by simp; omega)] at h; cases h
      subst hn2
      simp at h
      subst h
      exact ⟨p, vs, by rw [List.getElem?_append_right (by rw [I.slen]; exact Nat.le_refl _)]; simp [I.slen], upd_same, by rw [ef]; exact RpL.mono hb (.refl _) _ _ r⟩
  · rw [List.nodup_append]
    refine ⟨I.nd, by simp, fun a ha b hb2 z => ?_⟩
    have : b = p := by simpa using hb2
    subst this; subst z
    exact I.freshA hp ha
  · rcases List.mem_append.mp ha with q | q
    · exact I.dis a q
    · have : a = p := by simpa using q
      subst this
      exact I.freshO hp
  · cases z : H a with
    | none => exact absurd z (I.there a h)
    | some u => rw [hx z]; simp
  · rcases List.mem_append.mp ha with q | q
    · exact I.cfresh a q h0
    · have : a = p := by simpa using q
      subst this
      exact I.fresh0 hp
theorem Fz_mem {p : Addr} {o : HO} (hp : p ∈ w.as) : Fz w (upd H p o) = Fz w H := by
  funext a
  unfold Fz
  by_cases h : a ∈ w.as ∨ w.ow a
  · rw [if_pos h, if_pos h]
  · rw [if_neg h, if_neg h]
    exact upd_ne fun z => by subst z; exact h (.inl hp)
theorem IE.writeCell (I : IE G w e s σ H) {n : Nat} {p : Addr} {vs : List V} {ds : List Dat} (hn : w.as[n]? = some p) (r : RpL G.K w.as (Fz w H) ds vs) : IE G w e (s.set n (.ls ds)) σ (upd H p (.lst vs)) := by
  have hm : p ∈ w.as := List.mem_of_getElem? hn
  have ef : Fz w (upd H p (.lst vs)) = Fz w H := Fz_mem hm
  have hns : n < s.length := by rw [← I.slen]; exact (List.getElem?_eq_some_iff.mp hn).1
  refine ⟨I.len, fun i d h => ?_, fun i ds h => ?_, I.inj, by rw [List.length_set]; exact I.slen, fun m es h => ?_, I.nd, I.dis, I.beg, I.o0, fun a h => ?_, fun a u h h' => ?_, I.cfresh⟩
  · obtain ⟨v, h1, h2⟩ := I.slot i d h
    exact ⟨v, h1, by rw [ef]; exact h2⟩
  · obtain ⟨q, us, h1, h2, h3, h4, h5, h6⟩ := I.own i ds h
    have : q ≠ p := fun z => by subst z; exact I.dis q hm h2
    exact ⟨q, us, h1, h2, h3, h4, by rw [upd_ne this]; exact h5, by rw [ef]; exact h6⟩
  · by_cases z : n = m
    · subst z
      rw [List.getElem?_set_self hns] at h; cases h
      exact ⟨p, vs, hn, upd_same, by rw [ef]; exact r⟩
    · rw [List.getElem?_set_ne z] at h
      obtain ⟨a, us, h1, h2, h3⟩ := I.cells m es h
      have : a ≠ p := fun y => by
        subst y
        exact z (nd_ix I.nd hn h1)
      exact ⟨a, us, h1, by rw [upd_ne this]; exact h2, by rw [ef]; exact h3⟩
  · by_cases z : a = p
    · subst z; rw [upd_same]; simp
    · rw [upd_ne z]; exact I.there a h
  · have : a ≠ p := fun z => by
      subst z
      have := I.cfresh a hm h'
      rw [h] at this; cases this
    rw [upd_ne this]
    exact I.keep a u h h'
end
/-- x = [..], a cell -/
@[simp] def sCell (i : Nat) (Fs : FA) : FS := fun e s => (Fs e s).flo fun ds s1 => if i < e.length ∧ ds.length ≤ sizeLine then .nx (e.set i (.fz (cel s1.length))) (s1 ++ [.ls ds]) else .bad
theorem ds_setCell (i : Nat) {y : Str} {es : List Expr} {pos pos' pos2 : Pos} {Fs : FA} (hN : X.N.Nodup) (ha : PA X es (tA G Fs)) (hi : X.N[i]? = some y := by rfl) (hx : Loc X.env.scope y := by first | exact Or.inl rfl | exact Or.inr rfl) (hs : swapsWith (.List es pos2) (some (.Name y pos')) pos.line X.env = pure false := by rfl)
    (hf : X.fn y = true ∨ X.env.scope.names.lookup y = some .local := by first | exact .inl rfl | exact .inr rfl) : PS X (.Assign [.Name y pos'] (.List es pos2) pos) (tS G (sCell i Fs)) :=
  PS_imp (ps_set hN hi hx (pe_lst ha) hs hf) fun D σ H ⟨w, e, s, I, h⟩ => by
    refine ⟨w, e, s, I, holds_imp (flo_holds h) fun ds s1 h1 w1 vs H1 I1 x1 r1 => ?_⟩
    split at h1
    · rename_i c
      refine ⟨by rw [r1.length]; exact c.2, fun p hp => ?_⟩
      refine h1 ⟨w1.as ++ [p], w1.ow⟩ _ _ ((I1.newCell hp r1).set c.1 ?_) (x1.f.trans ⟨⟨[p], rfl⟩, by rw [Fz_cell hp]; exact .refl _⟩)
      unfold cel
      simp only [Rp]
      refine ⟨p, rfl, ?_⟩
      rw [← I1.slen]
      simp
    · exact h1.elim
/-- x[k] = v, x a cell -/
@[simp] def sItem (Fo Fi Fv : FE) : FS := fun e s => (Fv e s).flo fun d s1 => (Fo e s1).flo fun o s2 => (Fi e s2).flo fun k s3 => match o, k with
  | .dict [(.int n, .none)], .int j => match s3[n.toNat]? with
    | some (.ls ds) => match ixN ds.length j with
      | some m => .nx e (s3.set n.toNat (.ls (ds.set m d)))
      | none => .bad
    | none => .bad
  | _, _ => .bad
theorem ds_item {o i v : Expr} {pos p2 : Pos} {Fo Fi Fv : FE} (hv : PE X v (tE G Fv)) (ho : PE X o (tE G Fo)) (hi : PE X i (tE G Fi)) (ha : ∀ u, assign (.Subscript o i p2) X.env u = (do
      let ov ← holding [u] (eval o X.env)
      let iv ← holding [u, ov] (eval i X.env)
      standAt p2
      holding [u, ov, iv] (setItem ov iv u)
      release [u, ov, iv] []) := by intro _; rfl) (hs : swapsWithSole [.Subscript o i p2] v pos.line X.env = pure false := by rfl) (hw : swappedStores [.Subscript o i p2] v X.env = pure none := by rfl)
    (h1 : (assignEach [.Subscript o i p2] X.env).map (·.2) = [assign (.Subscript o i p2) X.env] := by rfl) : PS X (.Assign [.Subscript o i p2] v pos) (tS G (sItem Fo Fi Fv)) :=
  PS_imp (ps_asg hv (pg_sub ho hi set_list ha) hs hw h1) fun D σ H ⟨w, e, s, I, h⟩ => by
    refine ⟨w, e, s, I, holds_imp (flo_holds h) fun d s1 h1 w1 dv H1 I1 x1 r1 => ?_⟩
    refine ⟨w1, e, s1, I1, holds_imp (flo_holds h1) fun ov s2 h2 w2 ovv H2 I2 x2 r2 => ?_⟩
    refine ⟨w2, e, s2, I2, holds_imp (flo_holds h2) fun k s3 h3 w3 kv H3 I3 x3 r3 => ?_⟩
    split at h3
    · rename_i n j
      split at h3
      · rename_i ds hds
        split at h3
        · rename_i m hm
          have r2' : ∃ a, ovv = .ref a ∧ w2.as[n.toNat]? = some a := by simpa [Rp] using r2
          obtain ⟨p, rfl, hp⟩ := r2'
          have hp3 := x3.beg.get hp
          obtain ⟨a', vs, e1, e2, e3⟩ := I3.cells _ _ hds
          rw [hp3] at e1; cases e1
          refine ⟨p, vs, j, m, rfl, rp_int r3, e2, by rw [e3.length]; exact hm, ?_⟩
          have rd := (x2.trans x3).rp r1
          exact h3 w3 σ _ (I3.writeCell hp3 (e3.set m rd)) ((x1.trans (x2.trans x3)).f.trans ⟨.refl _, by rw [Fz_mem (List.mem_of_getElem? hp3)]; exact .refl _⟩)
        · exact h3.elim
      · exact h3.elim
    · exact h3.elim

/-! ### a local's own list -/
/-- x = [..], to be grown -/
@[simp] def sOwn (i : Nat) (Fs : FA) : FS := fun e s => (Fs e s).flo fun ds s1 => if i < e.length ∧ ds.length ≤ sizeLine then .nx (e.set i (.ow ds)) s1 else .bad
theorem ds_setOwn (i : Nat) {y : Str} {es : List Expr} {pos pos' pos2 : Pos} {Fs : FA} (hN : X.N.Nodup) (ha : PA X es (tA G Fs)) (hi : X.N[i]? = some y := by rfl) (hx : Loc X.env.scope y := by first | exact Or.inl rfl | exact Or.inr rfl) (hs : swapsWith (.List es pos2) (some (.Name y pos')) pos.line X.env = pure false := by rfl)
    (hf : X.fn y = true ∨ X.env.scope.names.lookup y = some .local := by first | exact .inl rfl | exact .inr rfl) : PS X (.Assign [.Name y pos'] (.List es pos2) pos) (tS G (sOwn i Fs)) :=
  PS_imp (ps_set hN hi hx (pe_lst ha) hs hf) fun D σ H ⟨w, e, s, I, h⟩ => by
    refine ⟨w, e, s, I, holds_imp (flo_holds h) fun ds s1 h1 w1 vs H1 I1 x1 r1 => ?_⟩
    split at h1
    · rename_i c
      refine ⟨by rw [r1.length]; exact c.2, fun p hp => ?_⟩
      refine h1 (w1.plus p) _ _ ((I1.plus hp).setOwn c.1 (.inr rfl) (I1.fresh0 hp) (I1.freshO0 hp) (I1.lone hp) upd_same ?_) (x1.f.trans (plus_f hp))
      rw [Fz_plus hp]
      exact r1
    · exact h1.elim
/-- x.append(v), x.extend(v) -/
@[simp] def sAppend (i : Nat) (Fa : FE) : FS := fun e s => (Fa e s).flo fun d s1 => match e[i]? with
  | some (.ow ds) => if ds.length < sizeLine then .nx (e.set i (.ow (ds ++ [d]))) s1 else .bad
  | _ => .bad
theorem tyV_lst {w : Wd} {e : Lcs} {s : Sto} {σ : L2.St} {H : Hp} {K : PySem.W.Frag} {p : Addr} {vs : List V} (h : H p = some (.lst vs)) : tyV K "list" (.ref p) H := Or.inl ⟨rfl, _, Or.inl (Or.inl h)⟩
theorem ds_append (i : Nat) {x : Str} {a : Expr} {px apos cpos pos : Pos} {Fa : FE} (ha : PE X a (tE G Fa)) (hi : X.N[i]? = some x := by rfl) (hx : Vis X.env.scope x := by first | exact Or.inl rfl | exact Or.inr (Or.inl rfl) | exact Or.inr (Or.inr rfl)) (hd : (x == ("__debug__" : Str)) = false := by decide) (hcd : (x == ("__classdict__" : Str)) = false := by decide)
    (hsw : swapsWith (.Call (.Attribute (.Name x px) "append" apos) [a] [] cpos) none pos.line X.env = pure false := by rfl)
    (hbase : attributeBase (.Name x px) "append" X.env (eval (.Name x px) X.env) = eval (.Name x px) X.env := by rfl)
    (hfew : ((backTo cpos (starEach [a] X.env)).all (fun x => !x.1) && (backToKw cpos (keywordEach [] X.env)).all (fun x => x.1.isSome)
      && decide (([a] : List Expr).length + ([] : List Keyword).length + (if ([] : List Keyword).isEmpty then 0 else 1) < 30)) = true := by rfl)
    (hline : (apos.endLine == cpos.line) = true := by rfl) (hs1 : starEach [a] X.env = (false, eval a X.env) :: starEach [] X.env := by rfl) (hplain : (backTo cpos (starEach [] X.env)).any (·.1) = false := by rfl) :
    PS X (.Expr (.Call (.Attribute (.Name x px) "append" apos) [a] [] cpos) pos) (tS G (sAppend i Fa)) :=
  PS_imp (ps_expr (pe_bm PySem.F.plainAttrs_list PySem.F.slot_list_append PySem.F.type_list_append mt_append (pe_var (i := i) hi hx hd hcd) (pa_cons ha pa_nil hs1) hbase hfew hline hs1 hplain) hsw) fun D σ H ⟨w, e, s, I, h⟩ => by
    unfold sAppend at h
    -- the list stands ahead of the argument
    have hown : ∃ ds, e[i]? = some (.ow ds) := by
      cases q : Fa e s with
      | bad => rw [q] at h; exact h.elim
      | ok d s1 =>
        rw [q] at h
        simp only [flo_ok] at h
        split at h
        · rename_i ds hds
          exact ⟨ds, hds⟩
        · exact h.elim
    obtain ⟨ds, hds⟩ := hown
    obtain ⟨p, vs, g1, g2, g3, g4, g5, g6⟩ := I.own i ds hds
    refine ⟨.ref p, g1, Or.inl ⟨rfl, _, Or.inl (Or.inl g5)⟩, w, e, s, I, holds_imp (flo_holds h) fun d s1 h1 w1 v H1 I1 x1 r1 => ?_⟩
    rw [hds] at h1
    simp only at h1
    split at h1
    · rename_i c
      obtain ⟨p', vs', k1, k2, k3, k4, k5, k6⟩ := I1.own i ds hds
      rw [g1] at k1; cases k1
      refine ⟨p, vs', v, rfl, rfl, k5, by rw [k6.length]; exact c, ?_⟩
      refine h1 w1 σ _ (I1.writeOwn hds g1 (k6.append (RpL.one r1))) (x1.f.trans (write_f k2))
    · exact h1.elim
end
end DL

namespace DL
open PySem PySem.Spec PyProof.Rows L2
section
variable {X : Cx} {G : Gx}
theorem room65 {k : Nat} {A : Around} (hr : Room k A) : A.units + 65 < cLine := by have := hr.un; omega

/-! ### in -/
def rInT (K : PySem.W.Frag) : R2 := fun x y H Q => ∃ d ds, Dp K H x d ∧ Dp K H y (.tuple ds) ∧ SeqAt.shaped d = true ∧ SeqAt.shaped (.tuple ds) = true ∧ Q (.bl (ds.any fun z => PyData.eqv z d)) H
def rNotInT (K : PySem.W.Frag) : R2 := fun x y H Q => ∃ d ds, Dp K H x d ∧ Dp K H y (.tuple ds) ∧ SeqAt.shaped d = true ∧ SeqAt.shaped (.tuple ds) = true ∧ Q (.bl (!ds.any fun z => PyData.eqv z d)) H
theorem op_inT (hu : X.A.units + 65 < cLine) : OpR X (compareOp .In) (rInT X.K) := fun pins s σ H x y v u Q I rx ry ⟨d, ds, hd, he, sd, se, q⟩ => by
  obtain ⟨bs, k1⟩ := Dp.reads I d x v hd rx
  obtain ⟨as, k2⟩ := Dp.reads I (.tuple ds) y u he ry
  exact SeqAt.in_tuple_reads k2 k1 (SeqAt.canLay_of_shaped (d := .tuple ds) se) (SeqAt.canLay_of_shaped sd) (room_in_shaped sd hu) ⟨.bl _, H, I, rfl, q⟩
theorem op_notInT (hu : X.A.units + 65 < cLine) : OpR X (compareOp .NotIn) (rNotInT X.K) := fun pins s σ H x y v u Q I rx ry ⟨d, ds, hd, he, sd, se, q⟩ => by
  obtain ⟨bs, k1⟩ := Dp.reads I d x v hd rx
  obtain ⟨as, k2⟩ := Dp.reads I (.tuple ds) y u he ry
  exact SeqAt.notIn_tuple_reads k2 k1 (SeqAt.canLay_of_shaped (d := .tuple ds) se) (SeqAt.canLay_of_shaped sd) (room_in_shaped sd hu) ⟨.bl _, H, I, rfl, q⟩
def inStr (i j : Str) : Bool := !(Builtin.Str.occurrences j i 0 j.length 1).isEmpty
def isIn (a b : Dat) : Option Bool := match b with
  | .list ds => if SeqAt.shaped a && SeqAt.shaped (.list ds) then some (ds.any fun z => PyData.eqv z a) else none
  | .tuple ds => if SeqAt.shaped a && SeqAt.shaped (.tuple ds) then some (ds.any fun z => PyData.eqv z a) else none
  | .str j => match a with
    | .str i => some (inStr i j)
    | _ => none
  | _ => none
@[simp] def gIn : Dat → Dat → Sto → Res Dat := fun a b s => match isIn a b with
  | some k => .ok (.bool k) s
  | none => .bad
@[simp] def gNotIn : Dat → Dat → Sto → Res Dat := fun a b s => match isIn a b with
  | some k => .ok (.bool (!k)) s
  | none => .bad
def rIn3 (K : PySem.W.Frag) : R2 := fun x y H Q => rInD K x y H Q ∨ rInT K x y H Q ∨ ∃ i j, x = .str i ∧ y = .str j ∧ Q (.bl (!(Builtin.Str.occurrences j i 0 j.length 1).isEmpty)) H
def rNotIn3 (K : PySem.W.Frag) : R2 := fun x y H Q => rNotInD K x y H Q ∨ rNotInT K x y H Q ∨ ∃ i j, x = .str i ∧ y = .str j ∧ Q (.bl (!(!(Builtin.Str.occurrences j i 0 j.length 1).isEmpty))) H
theorem dp_full {w : Wd} {H : Hp} {K : PySem.W.Frag} {d : Dat} {v : V} (c : SeqAt.shaped d = true) (r : Rp K w.as (Fz w H) d v) : Dp K H v d := Dp_mono Fz_sub _ _ (dp_of d v (SeqAt.canLay_of_shaped c) r)
theorem opIn : OpD G (rIn3 G.K) gIn := by
  intro w e s σ H x y a b Q I ra rb h
  unfold gIn at h
  split at h
  · rename_i k hk
    have fin := flat_ok I h (rp_b (i := k))
    unfold isIn at hk
    split at hk
    · split at hk
      · rename_i c
        cases hk
        rw [Bool.and_eq_true] at c
        exact .inl ⟨_, _, dp_full c.1 ra, dp_full c.2 rb, c.1, c.2, fin⟩
      · cases hk
    · split at hk
      · rename_i c
        cases hk
        rw [Bool.and_eq_true] at c
        exact .inr (.inl ⟨_, _, dp_full c.1 ra, dp_full c.2 rb, c.1, c.2, fin⟩)
      · cases hk
    · split at hk
      · cases hk
        exact .inr (.inr ⟨_, _, rp_str ra, rp_str rb, fin⟩)
      · cases hk
    · cases hk
  · exact h.elim
theorem opNotIn : OpD G (rNotIn3 G.K) gNotIn := by
  intro w e s σ H x y a b Q I ra rb h
  unfold gNotIn at h
  split at h
  · rename_i k hk
    have fin := flat_ok I h (rp_b (i := !k))
    unfold isIn at hk
    split at hk
    · split at hk
      · rename_i c
        cases hk
        rw [Bool.and_eq_true] at c
        exact .inl ⟨_, _, dp_full c.1 ra, dp_full c.2 rb, c.1, c.2, fin⟩
      · cases hk
    · split at hk
      · rename_i c
        cases hk
        rw [Bool.and_eq_true] at c
        exact .inr (.inl ⟨_, _, dp_full c.1 ra, dp_full c.2 rb, c.1, c.2, fin⟩)
      · cases hk
    · split at hk
      · cases hk
        exact .inr (.inr ⟨_, _, rp_str ra, rp_str rb, fin⟩)
      · cases hk
    · cases hk
  · exact h.elim
section
variable {a b : Expr} {pos : Pos} {Fa Fb : FE} {k : Nat}
theorem de_in (hr : Room k X.A) (hK : X.K = G.K) (ha : PE X a (tE G Fa)) (hb : PE X b (tE G Fb)) (hm : behindInMarks .In b = false := by with_unfolding_all rfl) : PE X (.Compare a [.In] [b] pos) (tE G (fBin gIn Fa Fb)) :=
  de_cmp (r := rIn3 G.K) (by rw [← hK]; exact (op_inD (room65 hr)).or ((op_inT (room65 hr)).or op_in_str)) opIn ha hb hm
theorem de_notIn (hr : Room k X.A) (hK : X.K = G.K) (ha : PE X a (tE G Fa)) (hb : PE X b (tE G Fb)) (hm : behindInMarks .NotIn b = false := by with_unfolding_all rfl) : PE X (.Compare a [.NotIn] [b] pos) (tE G (fBin gNotIn Fa Fb)) :=
  de_cmp (r := rNotIn3 G.K) (by rw [← hK]; exact (op_notInD (room65 hr)).or ((op_notInT (room65 hr)).or op_notIn_str)) opNotIn ha hb hm
theorem dt_in (hr : Room k X.A) (hK : X.K = G.K) (ha : PE X a (tE G Fa)) (hb : PE X b (tE G Fb)) (hm : behindInMarks .In b = false := by with_unfolding_all rfl) : PT X (.Compare a [.In] [b] pos) (tT G (fB (fBin gIn Fa Fb))) :=
  dt_cmp (r := rIn3 G.K) (by rw [← hK]; exact (op_inD (room65 hr)).or ((op_inT (room65 hr)).or op_in_str)) opIn ha hb hm
theorem dt_notIn (hr : Room k X.A) (hK : X.K = G.K) (ha : PE X a (tE G Fa)) (hb : PE X b (tE G Fb)) (hm : behindInMarks .NotIn b = false := by with_unfolding_all rfl) : PT X (.Compare a [.NotIn] [b] pos) (tT G (fB (fBin gNotIn Fa Fb))) :=
  dt_cmp (r := rNotIn3 G.K) (by rw [← hK]; exact (op_notInD (room65 hr)).or ((op_notInT (room65 hr)).or op_notIn_str)) opNotIn ha hb hm
end

/-! ### is None -/
@[simp] def isNone : Dat → Option Bool
  | .none => some true
  | .bool _ => some false
  | .int _ => some false
  | .str _ => some false
  | .list _ => some false
  | .tuple _ => some false
  | .dict _ => none
theorem isNone_ok {K as F} {d : Dat} {v : V} {b : Bool} (h : isNone d = some b) (r : Rp K as F d v) : decide (v = .non) = b := by
  cases d with
  | none => cases h; rw [rp_none r]; rfl
  | bool _ => cases h; rw [rp_bool r]; rfl
  | int _ => cases h; rw [rp_int r]; rfl
  | str _ => cases h; rw [rp_str r]; rfl
  | list _ => cases h; obtain ⟨a, xs, rfl, _⟩ := rp_list r; rfl
  | tuple _ => cases h; obtain ⟨a, xs, rfl, _⟩ := rp_tuple r; rfl
  | dict _ => cases h
@[simp] def gIs : Dat → Dat → Sto → Res Dat := fun a b s => match b with
  | .none => match isNone a with
    | some k => .ok (.bool k) s
    | none => .bad
  | _ => .bad
@[simp] def gIsNot : Dat → Dat → Sto → Res Dat := fun a b s => match b with
  | .none => match isNone a with
    | some k => .ok (.bool (!k)) s
    | none => .bad
  | _ => .bad
theorem opIs : OpD G (fun x y H Q => y = .non ∧ Q (.bl (decide (x = .non))) H) gIs := by
  intro w e s σ H x y a b Q I ra rb h
  unfold gIs at h
  split at h
  · split at h
    · rename_i k hk
      rw [isNone_ok hk ra]
      exact ⟨rp_none rb, flat_ok I h rp_b⟩
    · exact h.elim
  · exact h.elim
theorem opIsNot : OpD G (fun x y H Q => y = .non ∧ Q (.bl (!decide (x = .non))) H) gIsNot := by
  intro w e s σ H x y a b Q I ra rb h
  unfold gIsNot at h
  split at h
  · split at h
    · rename_i k hk
      rw [isNone_ok hk ra]
      exact ⟨rp_none rb, flat_ok I h rp_b⟩
    · exact h.elim
  · exact h.elim
section
variable {a b : Expr} {pos : Pos} {Fa Fb : FE}
theorem de_is (ha : PE X a (tE G Fa)) (hb : PE X b (tE G Fb)) : PE X (.Compare a [.Is] [b] pos) (tE G (fBin gIs Fa Fb)) := de_cmp op_isN opIs ha hb
theorem de_isNot (ha : PE X a (tE G Fa)) (hb : PE X b (tE G Fb)) : PE X (.Compare a [.IsNot] [b] pos) (tE G (fBin gIsNot Fa Fb)) := de_cmp op_notN opIsNot ha hb
theorem dt_is (ha : PE X a (tE G Fa)) (hb : PE X b (tE G Fb)) : PT X (.Compare a [.Is] [b] pos) (tT G (fB (fBin gIs Fa Fb))) := dt_cmp op_isN opIs ha hb
theorem dt_isNot (ha : PE X a (tE G Fa)) (hb : PE X b (tE G Fb)) : PT X (.Compare a [.IsNot] [b] pos) (tT G (fB (fBin gIsNot Fa Fb))) := dt_cmp op_notN opIsNot ha hb
end

/-! ### isinstance of data -/
@[simp] def tyName : Dat → Option String
  | .none => some "NoneType"
  | .bool _ => some "bool"
  | .int _ => some "int"
  | .str _ => some "str"
  | .list _ => some "list"
  | .tuple _ => some "tuple"
  | .dict _ => none
@[simp] def isiTab (T n : String) : Bool := n == T || (T == "int" && n == "bool")
@[simp] def gIsi (T : String) : Dat → Sto → Res Dat := fun d s => match tyName d with
  | some n => .ok (.bool (isiTab T n)) s
  | none => .bad
theorem tyName_is {K : PySem.W.Frag} {w : Wd} {H : Hp} {d : Dat} {v : V} {n : String} (h : tyName d = some n) (r : Rp K w.as (Fz w H) d v) : TyX K H v (.type n) ∧ n ∈ ["NoneType", "bool", "int", "str", "list", "tuple"] := by
  cases d with
  | none => cases h; rw [rp_none r]; exact ⟨.base .non, by simp⟩
  | bool b => cases h; rw [rp_bool r]; exact ⟨.base (.bl b), by simp⟩
  | int b => cases h; rw [rp_int r]; exact ⟨.base (.int b), by simp⟩
  | str b => cases h; rw [rp_str r]; exact ⟨.base (.str b), by simp⟩
  | list ds =>
    cases h
    obtain ⟨a, xs, rfl, q, _⟩ := rp_list r
    exact ⟨.base (.lst (Fz_sub _ _ q)), by simp⟩
  | tuple ds =>
    cases h
    obtain ⟨a, xs, rfl, q, _⟩ := rp_tuple r
    refine ⟨?_, by simp⟩
    rcases sqT_mono Fz_sub q with (q | ⟨o, q⟩) | ⟨o, its, n, hk, hc, _⟩
    · exact .base (.tup q)
    · exact .fTuple q
    · exact .kTuple hk hc
  | dict _ => cases h
theorem de_isi (T : String) {p p2 pos : Pos} {a : Expr} {Fa : FE} {x : Str} (hK : X.K = G.K) (hm : X.mg "isinstance" = none) (hm2 : X.mg x = none) (ht : ∀ n ∈ ["NoneType", "bool", "int", "str", "list", "tuple"], kitB n T = some (isiTab T n)) (ha : PE X a (tE G Fa)) (hg : Gl X "isinstance" := by rfl) (hg2 : Gl X x := by rfl)
    (hv : bootBuiltins x = some (.type T) := by decide +kernel) (hv2 : bootBuiltins "isinstance" = some (.builtin "isinstance") := by decide +kernel) (hn : x ≠ "__name__" := by decide) (hdb : (x == ("__debug__" : Str)) = false := by decide)
    (he : starEach [a, .Name x p2] X.env = (false, eval a X.env) :: starEach [.Name x p2] X.env := by rfl) (he2 : starEach [.Name x p2] X.env = (false, eval (.Name x p2) X.env) :: starEach [] X.env := by rfl) (hpl : (backTo pos (starEach [.Name x p2] X.env)).any (·.1) = false := by rfl) :
    PE X (.Call (.Name "isinstance" p) [a, .Name x p2] [] pos) (tE G (fUn (gIsi T) Fa)) :=
  PE_imp (pe_callB call_isi hg hm hv2 (pa_cons ha (pa_cons (pe_bltn (v := .ty T) hg2 hm2 hv rfl hn hdb) pa_nil he2) he) (by decide) (by decide) he hpl) fun σ H Q ⟨w, e, s, I, h⟩ => by
    refine ⟨w, e, s, I, holds_imp (holds_bind h) fun d s1 h1 w1 v H1 I1 x1 r1 => ?_⟩
    unfold gIsi at h1
    split at h1
    · rename_i n hn'
      obtain ⟨t1, t2⟩ := tyName_is hn' r1
      rw [hK]
      exact ⟨v, .ty T, .type n, .type T, _, rfl, .ty T, t1, kit_ty (ht n t2), h1 w1 _ H1 I1 x1 rp_b⟩
    · exact h1.elim
end
end DL

namespace DL
open PySem PySem.Spec PyProof.Rows L2
abbrev gSub : Dat → Dat → Sto → Res Dat := gII0 (· - ·)
abbrev gMul : Dat → Dat → Sto → Res Dat := gII cMul (· * ·)
abbrev gDiv : Dat → Dat → Sto → Res Dat := gII cDiv (· / ·)
abbrev gMod : Dat → Dat → Sto → Res Dat := gII cMod (· % ·)
abbrev gPow : Dat → Dat → Sto → Res Dat := gII cPow fun i j => i ^ j.toNat
abbrev gShl : Dat → Dat → Sto → Res Dat := gII cPow fun i j => i * 2 ^ j.toNat
abbrev gLt : Dat → Dat → Sto → Res Dat := gIB fun i j => decide (i < j)
abbrev gLe : Dat → Dat → Sto → Res Dat := gIB fun i j => decide (i ≤ j)
abbrev gGt : Dat → Dat → Sto → Res Dat := gIB fun i j => decide (j < i)
abbrev gGe : Dat → Dat → Sto → Res Dat := gIB fun i j => decide (j ≤ i)
@[simp] theorem size_line : sizeLine = 16777216 := sizeLine_eq
@[simp] theorem shaped_int (i : Int) : SeqAt.shaped (.int i) = true := by simp [SeqAt.shaped, PyData.canLay0, PyData.depth]
@[simp] theorem shaped_bool (i : Bool) : SeqAt.shaped (.bool i) = true := by simp [SeqAt.shaped, PyData.canLay0, PyData.depth]
@[simp] theorem shaped_none : SeqAt.shaped .none = true := by simp [SeqAt.shaped, PyData.canLay0, PyData.depth]
@[simp] theorem eqv_int (i j : Int) : PyData.eqv (.int i) (.int j) = (i == j) := by simp [PyData.eqv]
theorem at_pos {α : Type} {l : List α} {i : Int} {j : Nat} {a : α} (n : Nat) (hi : i = (j : Int)) (h : l[j]? = some a) : L2.atI l i = some a := by
  rw [hi]
  exact L2.atI_nat h
@[simp] theorem at_0 {α : Type} (a : α) (r : List α) : L2.atI (a :: r) 0 = some a := at_pos (j := 0) 0 rfl rfl
@[simp] theorem at_1 {α : Type} (a b : α) (r : List α) : L2.atI (a :: b :: r) 1 = some b := at_pos (j := 1) 0 rfl rfl
@[simp] theorem at_2 {α : Type} (a b c : α) (r : List α) : L2.atI (a :: b :: c :: r) 2 = some c := at_pos (j := 2) 0 rfl rfl
@[simp] theorem at_3 {α : Type} (a b c d : α) (r : List α) : L2.atI (a :: b :: c :: d :: r) 3 = some d := at_pos (j := 3) 0 rfl rfl
@[simp] theorem at_4 {α : Type} (a b c d e : α) (r : List α) : L2.atI (a :: b :: c :: d :: e :: r) 4 = some e := at_pos (j := 4) 0 rfl rfl
@[simp] theorem at_5 {α : Type} (a b c d e f : α) (r : List α) : L2.atI (a :: b :: c :: d :: e :: f :: r) 5 = some f := at_pos (j := 5) 0 rfl rfl
@[simp] theorem at_6 {α : Type} (a b c d e f g : α) (r : List α) : L2.atI (a :: b :: c :: d :: e :: f :: g :: r) 6 = some g := at_pos (j := 6) 0 rfl rfl
@[simp] theorem at_7 {α : Type} (a b c d e f g h : α) (r : List α) : L2.atI (a :: b :: c :: d :: e :: f :: g :: h :: r) 7 = some h := at_pos (j := 7) 0 rfl rfl
@[simp] theorem eqv_bool (i j : Bool) : PyData.eqv (.bool i) (.bool j) = (i == j) := by simp [PyData.eqv]
/-- the end: what the law's def does with the script -/
theorem law_end {K : PySem.W.Frag} {H : Hp} {a : Addr} {ns : List Int} {g : List Dat → Sto → Res Dat} {E : XK} (hS : SqL K H a (ns.map V.int)) (h : ∃ s, g [seal_ ns] [] = .ok (.bool true) s) : spF K g [.ref a] H (fun v _ => v = .bl true) E := by
  obtain ⟨s', h⟩ := h
  refine ⟨⟨[], fun _ => False⟩, [seal_ ns], [], ⟨rfl, fun n ds h => by simp at h, by simp, fun a ha => by simp at ha, fun a ha => ha.elim⟩, ?_, ?_⟩
  · refine RpL.one ?_
    simp only [Rp]
    refine ⟨a, ns, rfl, rfl, ?_⟩
    refine sqL_mono (F := H) (fun b o hb => ?_) hS
    exact Fz_of hb (by simp) fun q => q
  · rw [h]
    intro w' v H' _ _ _ _ _ _ r
    exact rp_bool r
end DL

namespace LW
open PySem DL
noncomputable section
def C1_common : FT := fun e s => (fB (fBin gGt (fVar 1) (fC (.int 0)))) e s
def B1_common : FS := fun e s => (sPar 0 1 (fCons (fVar 1) (fCons (fBin gMod (fVar 0) (fVar 1)) fNil))) e s
def F_common : FS := (sSeq (sPar 0 1 (fCons (fCall gAbs (fCons (fVar 0) fNil)) (fCons (fCall gAbs (fCons (fVar 1) fNil)) fNil)))
    (sSeq (sWhile C1_common B1_common)
    (sRet (fVar 0))))
def g_common : List Dat → Sto → Res Dat := runF 2 2 F_common
def B1_whole : FS := fun e s => (sSet 1 (fBin gMul (fBin gDiv (fVar 1) (fCall g_common (fCons (fVar 1) (fCons (fVar 3) fNil)))) (fVar 3))) e s
def E2_whole : FE := fun e s => (fBin gMul (fVar 2) (fBin gDiv (fVar 1) (fVar 3))) e s
def E3_whole : FE := fun e s => (fBin gDiv (fVar 6) (fCall gMax (fCons (fLst (fCons (fC (.int 1)) (fCons (fVar 5) fNil))) fNil))) e s
def F_whole : FS := (sSeq (sSet 1 (fC (.int 1)))
    (sSeq (sFor (fIter (fVar 0)) (gTupT 2 (gsCons (gSet 2) (gsCons (gSet 3) gsNil))) B1_whole)
    (sSeq (sSet 4 (fLc (fIter (fVar 0)) (gTupT 2 (gsCons (gSet 2) (gsCons (gSet 3) gsNil))) cYes E2_whole [2, 3]))
    (sSeq (sSet 5 (fCall g_common (fCons (fCall g_common (fCons (fBin gIx (fVar 4) (fC (.int 0))) (fCons (fBin gIx (fVar 4) (fC (.int 1))) fNil))) (fCons (fBin gIx (fVar 4) (fC (.int 2))) fNil))))
    (sRet (fCall gTupOf (fCons (fLc (fIter (fVar 4)) (gSet 6) cYes E3_whole [6]) fNil)))))))
def g_whole : List Dat → Sto → Res Dat := runF 1 7 F_whole
def F__law_cell_at : FS := (sSeq (sIf (fB (fBin gLt (fVar 1) (fCall gLen (fCons (fVar 0) fNil)))) (sRet (fBin gIx (fVar 0) (fVar 1))) sNext)
    (sRet (fC (.int 0))))
def g__law_cell_at : List Dat → Sto → Res Dat := runF 2 2 F__law_cell_at
def F__law_draw : FS := (sSeq (sSet 3 (fTup (fCons (fC (.int 1000003)) (fCons (fC (.int 1000033)) (fCons (fC (.int 1000037)) (fCons (fC (.int 1000039)) (fCons (fC (.int 1000081)) (fCons (fC (.int 1000099)) (fCons (fC (.int 1000117)) (fCons (fC (.int 1000121)) (fCons (fC (.int 1000133)) (fCons (fC (.int 1000151)) (fCons (fC (.int 1000159)) (fCons (fC (.int 1000171)) (fCons (fC (.int 1000183)) (fCons (fC (.int 1000187)) (fCons (fC (.int 1000193)) (fCons (fC (.int 1000199)) fNil))))))))))))))))))
    (sRet (fBin gMod (fBin gMod (fCall gInt (fCons (fBin gAdd (fBin gMul (fVar 0) (fC (.int 48271))) (fBin gMul (fVar 1) (fC (.int 69621)))) fNil)) (fBin gIx (fVar 3) (fBin gMod (fCall gInt (fCons (fVar 1) fNil)) (fC (.int 16))))) (fVar 2))))
def g__law_draw : List Dat → Sto → Res Dat := runF 3 4 F__law_draw
def B1__law_number : FS := fun e s => (sSet 3 (fBin gMul (fVar 3) (fC (.int 1009)))) e s
def F__law_number : FS := (sSeq (sSet 3 (fC (.int 1)))
    (sSeq (sFor (fItA gRng1 (fCons (fBin gMod (fCall gInt (fCons (fVar 1) fNil)) (fC (.int 24))) fNil)) (gSet 4) B1__law_number)
    (sSeq (sSet 5 (fBin gDiv (fBin gSub (fVar 0) (fBin gPow (fC (.int 10)) (fC (.int 18)))) (fVar 3)))
    (sSeq (sIf (fB (fBin gGt (fVar 5) (fC (.int 0)))) (sRet (fBin gMod (fBin gMod (fCall gInt (fCons (fVar 5) fNil)) (fC (.int 1009))) (fVar 2))) sNext)
    (sSeq (sSet 6 (fBin gMod (fCall gInt (fCons (fVar 0) fNil)) (fC (.int 1000003))))
    (sRet (fBin gMod (fCall g__law_draw (fCons (fBin gMul (fBin gAdd (fVar 6) (fBin gMul (fC (.int 977)) (fVar 1))) (fBin gAdd (fBin gAdd (fVar 6) (fBin gMul (fC (.int 31)) (fVar 1))) (fC (.int 5)))) (fCons (fBin gAdd (fBin gMod (fCall gInt (fCons (fVar 1) fNil)) (fC (.int 9))) (fC (.int 1))) (fCons (fC (.int 999983)) fNil)))) (fVar 2))))))))
def g__law_number : List Dat → Sto → Res Dat := runF 3 7 F__law_number
def F__law_next : FS := (sSeq (sItem (fVar 0) (fC (.int 2)) (fBin gAdd (fBin gIx (fVar 0) (fC (.int 2))) (fC (.int 1))))
    (sSeq (sSet 2 (fBin gDiv (fBin gIx (fVar 0) (fC (.int 2))) (fC (.int 12))))
    (sSeq (sSet 3 (fBin gAdd (fCall g__law_cell_at (fCons (fBin gIx (fVar 0) (fC (.int 0))) (fCons (fBin gAdd (fBin gIx (fVar 0) (fC (.int 1))) (fVar 2)) fNil))) (fBin gMul (fC (.int 31)) (fVar 2))))
    (sRet (fCall g__law_number (fCons (fVar 3) (fCons (fBin gAdd (fBin gMod (fCall gInt (fCons (fBin gIx (fVar 0) (fC (.int 2))) fNil)) (fC (.int 12))) (fC (.int 1))) (fCons (fVar 1) fNil))))))))
def g__law_next : List Dat → Sto → Res Dat := runF 2 4 F__law_next
def B1__law_common : FS := fun e s => (sSeq (sIf (fB (fBin gEq (fVar 1) (fC (.int 0)))) (sRet (fVar 0)) sNext)
    (sPar 0 1 (fCons (fVar 1) (fCons (fBin gMod (fVar 0) (fVar 1)) fNil)))) e s
def F__law_common : FS := (sSeq (sPar 0 1 (fCons (fCall gAbs (fCons (fVar 0) fNil)) (fCons (fCall gAbs (fCons (fVar 1) fNil)) fNil)))
    (sSeq (sFor (fItA gRng1 (fCons (fC (.int 400)) fNil)) (gSet 2) B1__law_common)
    (sRet (fVar 0))))
def g__law_common : List Dat → Sto → Res Dat := runF 2 3 F__law_common
def F__law_frac : FS := (sSeq (sIf (fB (fBin gLt (fVar 1) (fC (.int 0)))) (sPar 0 1 (fCons (fUn gNeg (fVar 0)) (fCons (fUn gNeg (fVar 1)) fNil))) sNext)
    (sSeq (sSet 2 (fCall g__law_common (fCons (fVar 0) (fCons (fVar 1) fNil))))
    (sRet (fTup (fCons (fBin gDiv (fVar 0) (fVar 2)) (fCons (fBin gDiv (fVar 1) (fVar 2)) fNil))))))
def g__law_frac : List Dat → Sto → Res Dat := runF 2 3 F__law_frac
def F__law_sign : FS := (sRet (fIf (fB (fBin gGt (fVar 0) (fC (.int 0)))) (fC (.int 1)) (fIf (fB (fBin gEq (fVar 0) (fC (.int 0)))) (fC (.int 0)) (fUn gNeg (fC (.int 1))))))
def g__law_sign : List Dat → Sto → Res Dat := runF 1 1 F__law_sign
def E1_law : FE := fun e s => (fIf (fB (fBin gGt (fCall g__law_next (fCons (fVar 1) (fCons (fC (.int 4)) fNil))) (fC (.int 0)))) (fCall g__law_frac (fCons (fBin gSub (fCall g__law_next (fCons (fVar 1) (fCons (fC (.int 41)) fNil))) (fC (.int 20))) (fCons (fBin gAdd (fC (.int 1)) (fCall g__law_next (fCons (fVar 1) (fCons (fC (.int 30)) fNil)))) fNil))) (fTup (fCons (fC (.int 0)) (fCons (fC (.int 1)) fNil)))) e s
def B2_law : FS := fun e s => (sIf (fB (fBin gNe (fBin gMul (fBin gMul (fBin gIx (fVar 4) (fVar 5)) (fBin gIx (fBin gIx (fVar 3) (fVar 6)) (fC (.int 0)))) (fBin gIx (fBin gIx (fVar 3) (fVar 5)) (fC (.int 1)))) (fBin gMul (fBin gMul (fBin gIx (fVar 4) (fVar 6)) (fBin gIx (fBin gIx (fVar 3) (fVar 5)) (fC (.int 0)))) (fBin gIx (fBin gIx (fVar 3) (fVar 6)) (fC (.int 1)))))) (sRet (fC (.bool false))) sNext) e s
def E3_law : FE := fun e s => (fCall g__law_sign (fCons (fVar 8) fNil)) e s
def E4_law : FE := fun e s => (fCall g__law_sign (fCons (fBin gIx (fVar 8) (fC (.int 0))) fNil)) e s
def E5_law : FE := fun e s => (fTup (fCons (fVar 8) (fCons (fC (.int 1)) fNil))) e s
def B6_law : FS := fun e s => (sSeq (sSet 3 (fCall gTupOf (fCons (fLc (fItA gRng1 (fCons (fC (.int 3)) fNil)) (gSet 7) cYes E1_law [7]) fNil)))
    (sSeq (sSet 4 (fCall g_whole (fCons (fVar 3) fNil)))
    (sSeq (sIf (fOr (fNot (fB (fUn (gIsi "tuple") (fVar 4)))) (fOr (fB (fBin gNe (fCall gLen (fCons (fVar 4) fNil)) (fC (.int 3)))) (fB (fBin gNotIn (fCall g__law_common (fCons (fCall g__law_common (fCons (fBin gIx (fVar 4) (fC (.int 0))) (fCons (fBin gIx (fVar 4) (fC (.int 1))) fNil))) (fCons (fBin gIx (fVar 4) (fC (.int 2))) fNil))) (fTup (fCons (fC (.int 0)) (fCons (fC (.int 1)) fNil))))))) (sRet (fC (.bool false))) sNext)
    (sSeq (sFor (fIter (fTup (fCons (fTup (fCons (fC (.int 0)) (fCons (fC (.int 1)) fNil))) (fCons (fTup (fCons (fC (.int 0)) (fCons (fC (.int 2)) fNil))) (fCons (fTup (fCons (fC (.int 1)) (fCons (fC (.int 2)) fNil))) fNil))))) (gTupT 2 (gsCons (gSet 5) (gsCons (gSet 6) gsNil))) B2_law)
    (sSeq (sIf (fB (fBin gNe (fLc (fIter (fVar 4)) (gSet 8) cYes E3_law [8]) (fLc (fIter (fVar 3)) (gSet 8) cYes E4_law [8]))) (sRet (fC (.bool false))) sNext)
    (sIf (fB (fBin gNe (fCall g_whole (fCons (fCall gTupOf (fCons (fLc (fIter (fVar 4)) (gSet 8) cYes E5_law [8]) fNil)) fNil)) (fVar 4))) (sRet (fC (.bool false))) sNext)))))) e s
def F_law : FS := (sSeq (sCell 1 (fCons (fSl (fVar 0) fNo (fSome (fC (.int 63)))) (fCons (fC (.int 0)) (fCons (fC (.int 0)) fNil))))
    (sSeq (sFor (fItA gRng1 (fCons (fC (.int 12)) fNil)) (gSet 2) B6_law)
    (sRet (fBin gEq (fCall g_whole (fCons (fTup (fCons (fTup (fCons (fC (.int 0)) (fCons (fC (.int 1)) fNil))) (fCons (fTup (fCons (fC (.int 0)) (fCons (fC (.int 1)) fNil))) (fCons (fTup (fCons (fC (.int 0)) (fCons (fC (.int 1)) fNil))) fNil)))) fNil)) (fTup (fCons (fC (.int 0)) (fCons (fC (.int 0)) (fCons (fC (.int 0)) fNil))))))))
def g_law : List Dat → Sto → Res Dat := runF 1 9 F_law
end
end LW

namespace LW
open PySem DL L2
/-! ### numbers -/
theorem gcd_step (a b : Int) : Int.gcd b (a % b) = Int.gcd a b := by
  have h : a % b = a - b * (a / b) := by have := Int.mul_ediv_add_emod a b; omega
  rw [h, Int.gcd_sub_mul_left_right, Int.gcd_comm]
theorem gcd_abs (a b : Int) : Int.gcd (if a < 0 then -a else a) (if b < 0 then -b else b) = Int.gcd a b := by
  split <;> split <;> simp
theorem abs_nn (a : Int) : 0 ≤ (if a < 0 then -a else a) := by split <;> omega
theorem log_small {i : Int} (h : -(2 ^ 64 : Int) < i) (h2 : i < 2 ^ 64) : i.natAbs.log2 < 64 := by
  by_cases z : i.natAbs = 0
  · rw [z]; decide
  · exact (Nat.log2_lt z).mpr (by omega)
theorem mul_ok {i j : Int} (h : -(2 ^ 64 : Int) < i) (h2 : i < 2 ^ 64) (h3 : -(2 ^ 64 : Int) < j) (h4 : j < 2 ^ 64) : cMul i j = true := by
  have a := log_small h h2
  have b := log_small h3 h4
  exact decide_eq_true (by omega)
theorem div_ok {i j : Int} (h : 0 < j) (h4 : j < 2 ^ 64) : cDiv i j = true := by
  have b := log_small (i := j) (by omega) h4
  unfold cDiv
  rw [decide_eq_true h, decide_eq_true (by omega)]; rfl
theorem mod_ok {i j : Int} (h : 0 < j) : cMod i j = true := decide_eq_true h
theorem common_loop : ∀ (n : Nat) (a b : Int) (s : Sto), 0 ≤ a → 0 ≤ b → b.toNat ≤ n →
    sWhile C1_common B1_common [.fz (.int a), .fz (.int b)] s = .nx [.fz (.int (Int.gcd a b)), .fz (.int 0)] s := by
  intro n
  induction n with
  | zero =>
    intro a b s ha hb hn
    have : b = 0 := by omega
    subst this
    rw [while_step]
    simp [C1_common]
    omega
  | succ n ih =>
    intro a b s ha hb hn
    rw [while_step]
    by_cases h0 : b = 0
    · subst h0
      simp [C1_common]
      omega
    · have hp : 0 < b := by omega
      simp [C1_common, B1_common, mod_ok, hp]
      rw [ih b (a % b) s hb (Int.emod_nonneg _ h0) (by have := Int.emod_lt_of_pos a hp; omega), gcd_step]
theorem common_ok (a b : Int) (s : Sto) : g_common [.int a, .int b] s = .ok (.int (Int.gcd a b)) s := by
  unfold g_common F_common
  simp
  rw [common_loop _ _ _ s (abs_nn a) (abs_nn b) (Nat.le_refl _)]
  simp [gcd_abs]
/-- the law's own, by at most 400 turns -/
theorem lcommon_loop : ∀ (m : Nat) (ks : List Dat) (a b : Int) (k0 : Slt) (s : Sto), 0 ≤ a → 0 ≤ b → b < 2 ^ m → 2 * m + 1 ≤ ks.length →
    forL (gSet 2) B1__law_common ks [.fz (.int a), .fz (.int b), k0] s = .rt (.int (Int.gcd a b)) s := by
  have zero : ∀ (ks : List Dat) (a : Int) (k0 : Slt) (s : Sto), 0 ≤ a → 1 ≤ ks.length →
      forL (gSet 2) B1__law_common ks [.fz (.int a), .fz (.int 0), k0] s = .rt (.int (Int.gcd a 0)) s := by
    intro ks a k0 s ha hk
    cases ks with
    | nil => simp at hk
    | cons d ks =>
      simp [B1__law_common, gEq]
      omega
  have one : ∀ (d : Dat) (ks : List Dat) (a b : Int) (k0 : Slt) (s : Sto), 0 < b →
      forL (gSet 2) B1__law_common (d :: ks) [.fz (.int a), .fz (.int b), k0] s =
      forL (gSet 2) B1__law_common ks [.fz (.int b), .fz (.int (a % b)), .fz d] s := by
    intro d ks a b k0 s hb
    have h0 : ¬ b = 0 := by omega
    simp [B1__law_common, gEq, h0, mod_ok, hb]
  intro m
  induction m with
  | zero =>
    intro ks a b k0 s ha hb hm hk
    have : b = 0 := by simp at hm; omega
    subst this
    exact zero ks a k0 s ha (by omega)
  | succ m ih =>
    intro ks a b k0 s ha hb hm hk
    by_cases h0 : b = 0
    · subst h0; exact zero ks a k0 s ha (by omega)
    · have hp : 0 < b := by omega
      match ks, hk with
      | d :: e :: ks, hk =>
        rw [one d _ a b k0 s hp]
        have r0 := Int.emod_nonneg a h0
        have r1 := Int.emod_lt_of_pos a hp
        by_cases hr : a % b = 0
        · rw [hr, zero _ b _ s hb (by simp), ← hr, gcd_step]
        · have hrp : 0 < a % b := by omega
          rw [one e ks b (a % b) _ s hrp]
          have q0 := Int.emod_nonneg b hr
          have q1 := Int.emod_lt_of_pos b hrp
          have q2 : 2 * (b % (a % b)) < b := by
            have e1 := Int.mul_ediv_add_emod b (a % b)
            have e2 : 1 ≤ b / (a % b) := (Int.le_ediv_iff_mul_le hrp).mpr (by omega)
            have e3 : (a % b) * 1 ≤ (a % b) * (b / (a % b)) := Int.mul_le_mul_of_nonneg_left e2 (by omega)
            omega
          rw [ih ks (a % b) (b % (a % b)) _ s r0 q0 (by rw [Int.pow_succ] at hm; omega) (by simp at hk; omega), gcd_step, gcd_step]

theorem ups_length (lo : Int) (n : Nat) : (ups lo n).length = n := ups_len lo n
theorem lcommon_ok (a b : Int) (s : Sto) (hb : -(2 ^ 128 : Int) < b) (hb2 : b < 2 ^ 128) : g__law_common [.int a, .int b] s = .ok (.int (Int.gcd a b)) s := by
  unfold g__law_common F__law_common
  have c : cRng 400 = true := by decide
  simp [c]
  rw [lcommon_loop 128 _ _ _ _ s (abs_nn a) (abs_nn b) (by split <;> omega) (by rw [ups_length]; decide)]
  simp [gcd_abs]
theorem gcd_pos_r (a : Int) {b : Int} (h : 0 < b) : (0 : Int) < Int.gcd a b := by
  have := Int.gcd_pos_of_ne_zero_right a (b := b) (by omega)
  omega
theorem gcd_le_r (a : Int) {b : Int} (h : 0 < b) : (Int.gcd a b : Int) ≤ b := Int.gcd_le_right a h
/-- n / d in its least form, d above 0 -/
def fnum (n d : Int) : Int := n / Int.gcd n d
def fden (n d : Int) : Int := d / Int.gcd n d
theorem lfrac_ok (n d : Int) (s : Sto) (hd : 0 < d) (hd2 : d < 2 ^ 60) : g__law_frac [.int n, .int d] s = .ok (.tuple [.int (fnum n d), .int (fden n d)]) s := by
  unfold g__law_frac F__law_frac
  have h0 : ¬ d < 0 := by omega
  have hg := gcd_pos_r n hd
  have hg2 := gcd_le_r n hd
  simp [h0, lcommon_ok n d s (by omega) (by omega), div_ok hg (by omega), fnum, fden]
theorem fden_pos (n : Int) {d : Int} (hd : 0 < d) : 0 < fden n d := by
  have hg := gcd_pos_r n hd
  have hg2 := gcd_le_r n hd
  have : 1 ≤ fden n d := (Int.le_ediv_iff_mul_le hg).mpr (by omega)
  omega
theorem fden_le (n : Int) {d : Int} (hd : 0 < d) : fden n d ≤ d := Int.ediv_le_self _ (by omega)
theorem fnum_abs (n : Int) {d : Int} (hd : 0 < d) {b : Int} (h1 : -b ≤ n) (h2 : n ≤ b) : -b ≤ fnum n d ∧ fnum n d ≤ b := by
  have hg := gcd_pos_r n hd
  have e : fnum n d * Int.gcd n d = n := Int.ediv_mul_cancel (Int.gcd_dvd_left n d)
  generalize fnum n d = q at e ⊢
  generalize (Int.gcd n d : Int) = g at e hg
  constructor
  · by_cases hq : 0 ≤ q
    · omega
    · have := Int.mul_le_mul_of_nonneg_left (a := 1) (b := g) (c := -q) (by omega) (by omega)
      rw [Int.neg_mul, Int.neg_mul] at this
      omega
  · by_cases hq : q ≤ 0
    · omega
    · have := Int.mul_le_mul_of_nonneg_left (a := 1) (b := g) (c := q) (by omega) (by omega)
      omega
theorem lsign_ok (n : Int) (s : Sto) : g__law_sign [.int n] s = .ok (.int (Int.sign n)) s := by
  unfold g__law_sign F__law_sign
  rcases Int.lt_trichotomy n 0 with h | h | h
  · have h1 : ¬ 0 < n := by omega
    have h2 : ¬ n = 0 := by omega
    simp [gEq, h1, h2, Int.sign_eq_neg_one_of_neg h]
  · subst h
    simp [gEq]
  · simp [h, Int.sign_eq_one_of_pos h]
/-! ### draws -/
/-- the cell of the draws -/
abbrev dst (cs : List Int) (k : Int) : Sto := [.ls [.list (cs.map PyData.int), .int 0, .int k]]
theorem at_get {ds : List Dat} {j : Nat} {d : Dat} (k : Int) (hk : k = j) (h : ds[j]? = some d) : L2.atI ds k = some d := by
  rw [hk]
  exact L2.atI_nat h
theorem cell_ok (cs : List Int) (k : Int) (s : Sto) (hk : 0 ≤ k) : ∃ v, g__law_cell_at [.list (cs.map PyData.int), .int k] s = .ok (.int v) s := by
  unfold g__law_cell_at F__law_cell_at
  by_cases h : k < cs.length
  · have hj : k.toNat < cs.length := by omega
    refine ⟨cs[k.toNat], ?_⟩
    have e : L2.atI (cs.map PyData.int) k = some (PyData.int cs[k.toNat]) := at_get (j := k.toNat) k (by omega) (by rw [List.getElem?_map, List.getElem?_eq_getElem hj]; rfl)
    simp [h, e]
  · exact ⟨0, by simp [h]⟩
def primesL : List Int := [1000003, 1000033, 1000037, 1000039, 1000081, 1000099, 1000117, 1000121, 1000133, 1000151, 1000159, 1000171, 1000183, 1000187, 1000193, 1000199]
theorem primes_at (m : Int) (h : 0 ≤ m) (h2 : m < 16) : ∃ p, L2.atI (primesL.map PyData.int) m = some (.int p) ∧ 0 < p ∧ p < 2000000 := by
  have hj : m.toNat < primesL.length := by
    show m.toNat < 16
    omega
  have all : ∀ p ∈ primesL, 0 < p ∧ p < 2000000 := by decide
  refine ⟨primesL[m.toNat], at_get (j := m.toNat) m (by omega) (by rw [List.getElem?_map, List.getElem?_eq_getElem hj]; rfl), all _ (List.getElem_mem hj)⟩
theorem draw_ok (c k b : Int) (s : Sto) (hc : -(2 ^ 60 : Int) < c) (hc2 : c < 2 ^ 60) (hk : -(2 ^ 60 : Int) < k) (hk2 : k < 2 ^ 60) (hb : 0 < b) : ∃ v, 0 ≤ v ∧ v < b ∧ g__law_draw [.int c, .int k, .int b] s = .ok (.int v) s := by
  obtain ⟨p, e, hp, hp2⟩ := primes_at (k % 16) (Int.emod_nonneg _ (by decide)) (Int.emod_lt_of_pos _ (by decide))
  have e' : L2.atI [PyData.int 1000003, PyData.int 1000033, PyData.int 1000037, PyData.int 1000039, PyData.int 1000081, PyData.int 1000099, PyData.int 1000117, PyData.int 1000121, PyData.int 1000133, PyData.int 1000151, PyData.int 1000159, PyData.int 1000171, PyData.int 1000183, PyData.int 1000187, PyData.int 1000193, PyData.int 1000199] (k % 16) = some (.int p) := e
  refine ⟨(c * 48271 + k * 69621) % p % b, Int.emod_nonneg _ (by omega), Int.emod_lt_of_pos _ hb, ?_⟩
  unfold g__law_draw F__law_draw
  simp [mul_ok (i := c) (j := 48271) (by omega) (by omega) (by decide) (by decide), mul_ok (i := k) (j := 69621) (by omega) (by omega) (by decide) (by decide), mod_ok, hp, hb, e']
theorem pow_loop : ∀ (ks : List Dat) (c k b p : Int) (n : Nat) (k0 u v : Slt) (s : Sto), 0 < p → p < 2 ^ (10 * n) → 10 * (n + ks.length) ≤ 250 →
    ∃ p' k1, 0 < p' ∧ p' < 2 ^ 250 ∧ forL (gSet 4) B1__law_number ks [.fz (.int c), .fz (.int k), .fz (.int b), .fz (.int p), k0, u, v] s = .nx [.fz (.int c), .fz (.int k), .fz (.int b), .fz (.int p'), k1, u, v] s := by
  intro ks
  induction ks with
  | nil =>
    intro c k b p n k0 u v s h1 h2 h3
    refine ⟨p, k0, h1, Int.lt_of_lt_of_le h2 ?_, by simp⟩
    have := Nat.pow_le_pow_right (n := 2) (by decide) (show 10 * n ≤ 250 by simpa using h3)
    exact_mod_cast this
  | cons d ks ih =>
    intro c k b p n k0 u v s h1 h2 h3
    have h3' : 10 * (n + 1 + ks.length) ≤ 250 := by simp at h3; omega
    have lg : p.natAbs.log2 < 250 := by
      have : p.natAbs < 2 ^ (10 * n) := by
        have h : (p.natAbs : Int) < ((2 ^ (10 * n) : Nat) : Int) := by push_cast; omega
        exact_mod_cast h
      have h2 : p.natAbs.log2 < 10 * n := (Nat.log2_lt (by omega)).mpr this
      omega
    have cm : cMul p 1009 = true := by
      have : (1009 : Int).natAbs.log2 = 9 := by decide
      exact decide_eq_true (by omega)
    have hp : p * 1009 < 2 ^ (10 * (n + 1)) := by
      have : (2 : Int) ^ (10 * (n + 1)) = 2 ^ (10 * n) * 1024 := by rw [show 10 * (n + 1) = 10 * n + 10 by omega, Int.pow_add]; rfl
      omega
    obtain ⟨p', k1, a1, a2, a3⟩ := ih c k b (p * 1009) (n + 1) (.fz d) u v s (by omega) hp h3'
    exact ⟨p', k1, a1, a2, by simp [B1__law_number, cm]; exact a3⟩
theorem number_ok (c k b : Int) (s : Sto) (hk : 0 ≤ k) (hk2 : k < 24) (hb : 0 < b) : ∃ v, 0 ≤ v ∧ v < b ∧ g__law_number [.int c, .int k, .int b] s = .ok (.int v) s := by
  have hm : k % 24 = k := Int.emod_eq_of_lt hk hk2
  have cr : cRng k = true := by unfold cRng; rw [decide_eq_true (by omega), decide_eq_true (by omega)]; rfl
  obtain ⟨p, k1, hp, hp2, e⟩ := pow_loop (ups 0 k.toNat) c k b 1 1 .un .un .un s (by decide) (by decide) (by rw [ups_length]; omega)
  have hd : cDiv (c - 1000000000000000000) p = true := by
    have : p.natAbs.log2 < 9000 := by
      have h : p.natAbs < 2 ^ 250 := by omega
      have := (Nat.log2_lt (k := 250) (by omega)).mpr h
      omega
    unfold cDiv
    rw [decide_eq_true hp, decide_eq_true this]; rfl
  have cp : cPow 10 18 = true := by decide
  have e10 : (10 : Int) ^ (18 : Int).toNat = 1000000000000000000 := by decide
  unfold g__law_number F__law_number
  by_cases hr : 0 < (c - 1000000000000000000) / p
  · refine ⟨(c - 1000000000000000000) / p % 1009 % b, Int.emod_nonneg _ (by omega), Int.emod_lt_of_pos _ hb, ?_⟩
    simp [mod_ok, hm, cr, e, cp, hd, hr, hb]
  · have g0 : 0 ≤ c % 1000003 := Int.emod_nonneg _ (by decide)
    have g1 : c % 1000003 < 1000003 := Int.emod_lt_of_pos _ (by decide)
    have k9 : 0 ≤ k % 9 := Int.emod_nonneg _ (by decide)
    have k9' : k % 9 < 9 := Int.emod_lt_of_pos _ (by decide)
    have hx : (c % 1000003 + 977 * k) * (c % 1000003 + 31 * k + 5) ≤ 2000000 * 2000000 := Int.mul_le_mul (by omega) (by omega) (by omega) (by omega)
    have hx0 : 0 ≤ (c % 1000003 + 977 * k) * (c % 1000003 + 31 * k + 5) := Int.mul_nonneg (by omega) (by omega)
    obtain ⟨v, h1, h2, h3⟩ := draw_ok ((c % 1000003 + 977 * k) * (c % 1000003 + 31 * k + 5)) (k % 9 + 1) 999983 s (by omega) (by omega) (by omega) (by omega) (by decide)
    refine ⟨v % b, Int.emod_nonneg _ (by omega), Int.emod_lt_of_pos _ hb, ?_⟩
    simp [mod_ok, hm, cr, e, cp, hd, hr, hb, h3, mul_ok (i := 977) (j := k) (by decide) (by decide) (by omega) (by omega), mul_ok (i := 31) (j := k) (by decide) (by decide) (by omega) (by omega),
      mul_ok (i := c % 1000003 + 977 * k) (j := c % 1000003 + 31 * k + 5) (by omega) (by omega) (by omega) (by omega)]
theorem next_ok (cs : List Int) (k b : Int) (hk : 0 ≤ k) (hk2 : k < 2 ^ 40) (hb : 0 < b) : ∃ v, 0 ≤ v ∧ v < b ∧ g__law_next [cel 0, .int b] (dst cs k) = .ok (.int v) (dst cs (k + 1)) := by
  have a0 : 0 ≤ (k + 1) / 12 := Int.ediv_nonneg (by omega) (by decide)
  have a1 : (k + 1) / 12 ≤ k + 1 := Int.ediv_le_self _ (by omega)
  obtain ⟨c, hc⟩ := cell_ok cs ((k + 1) / 12) (dst cs (k + 1)) a0
  have m0 : 0 ≤ (k + 1) % 12 := Int.emod_nonneg _ (by decide)
  have m1 : (k + 1) % 12 < 12 := Int.emod_lt_of_pos _ (by decide)
  obtain ⟨v, h1, h2, h3⟩ := number_ok (c + 31 * ((k + 1) / 12)) ((k + 1) % 12 + 1) b (dst cs (k + 1)) (by omega) (by omega) hb
  refine ⟨v, h1, h2, ?_⟩
  have i2 : ∀ (x y z : Dat), L2.atI [x, y, z] 2 = some z := fun _ _ _ => rfl
  have i1 : ∀ (x y z : Dat), L2.atI [x, y, z] 1 = some y := fun _ _ _ => rfl
  have i0 : ∀ (x y z : Dat), L2.atI [x, y, z] 0 = some x := fun _ _ _ => rfl
  have x2 : L2.ixN 3 2 = some 2 := rfl
  unfold g__law_next F__law_next
  unfold dst at hc h3 ⊢
  simp [cel, i2, i1, i0, x2, div_ok, mod_ok, hc, h3, mul_ok (i := 31) (j := (k + 1) / 12) (by decide) (by decide) (by omega) (by omega)]
end LW

namespace LW
open PySem DL L2
/-! ### the whole form -/
theorem log_wide {i : Int} (h : -(2 ^ 256 : Int) < i) (h2 : i < 2 ^ 256) : i.natAbs.log2 < 256 := by
  by_cases z : i.natAbs = 0
  · rw [z]; decide
  · exact (Nat.log2_lt z).mpr (by omega)
theorem mul_okW {i j : Int} (h : -(2 ^ 256 : Int) < i) (h2 : i < 2 ^ 256) (h3 : -(2 ^ 256 : Int) < j) (h4 : j < 2 ^ 256) : cMul i j = true := by
  have a := log_wide h h2
  have b := log_wide h3 h4
  exact decide_eq_true (by omega)
theorem div_okW {i j : Int} (h : 0 < j) (h4 : j < 2 ^ 256) : cDiv i j = true := by
  have b := log_wide (i := j) (by omega) h4
  unfold cDiv
  rw [decide_eq_true h, decide_eq_true (by omega)]; rfl
/-- the least common multiple, as reckoned -/
def lc (a b : Int) : Int := a / Int.gcd a b * b
theorem gcd_pos_l {a : Int} (b : Int) (h : 0 < a) : (0 : Int) < Int.gcd a b := by
  rw [Int.gcd_comm]; exact gcd_pos_r b h
theorem lc_pos {a b : Int} (ha : 0 < a) (hb : 0 < b) : 0 < lc a b := by
  have hg := gcd_pos_l b ha
  have h1 : 1 ≤ a / Int.gcd a b := (Int.le_ediv_iff_mul_le hg).mpr (by have := Int.gcd_le_left b ha; omega)
  exact Int.mul_pos (by omega) hb
theorem lc_le {a b : Int} (ha : 0 < a) (hb : 0 < b) : lc a b ≤ a * b := Int.mul_le_mul_of_nonneg_right (Int.ediv_le_self _ (by omega)) (by omega)
theorem dvd_lc_r (a b : Int) : b ∣ lc a b := ⟨a / Int.gcd a b, by unfold lc; rw [Int.mul_comm]⟩
theorem dvd_lc_l {a b : Int} (ha : 0 < a) : a ∣ lc a b := by
  have hg := gcd_pos_l b ha
  obtain ⟨c, hc⟩ := Int.gcd_dvd_right a b
  have h1 : a / Int.gcd a b * Int.gcd a b = a := Int.ediv_mul_cancel (Int.gcd_dvd_left a b)
  refine ⟨c, ?_⟩
  unfold lc
  generalize a / Int.gcd a b = q at h1 ⊢
  generalize (Int.gcd a b : Int) = g at h1 hc hg
  grind
def mx (g : Int) : Int := if 1 < g then g else 1
def wL (d0 d1 d2 : Int) : Int := lc (lc (lc 1 d0) d1) d2
def w3 (n0 d0 n1 d1 n2 d2 : Int) : Int × Int × Int :=
  let L := wL d0 d1 d2
  let N0 := n0 * (L / d0)
  let N1 := n1 * (L / d1)
  let N2 := n2 * (L / d2)
  let g : Int := Int.gcd (Int.gcd N0 N1) N2
  (N0 / mx g, N1 / mx g, N2 / mx g)
abbrev fr (n d : Int) : Dat := .tuple [.int n, .int d]
abbrev int3 (t : Int × Int × Int) : Dat := .tuple [.int t.1, .int t.2.1, .int t.2.2]
structure Fr (n d : Int) : Prop where
  p : 0 < d
  d2 : d < 2 ^ 60
  n1 : -(2 ^ 60 : Int) < n
  n2 : n < 2 ^ 60
theorem wL_pos {d0 d1 d2 : Int} (h0 : 0 < d0) (h1 : 0 < d1) (h2 : 0 < d2) : 0 < wL d0 d1 d2 := lc_pos (lc_pos (lc_pos (by decide) h0) h1) h2
theorem lc_one (d : Int) : lc 1 d = d := by unfold lc; simp
theorem mul_bd {x a b : Int} (h1 : -a ≤ x) (h2 : x ≤ a) (hb : 0 ≤ b) : -(a * b) ≤ x * b ∧ x * b ≤ a * b := by
  have k1 := Int.mul_le_mul_of_nonneg_right h1 hb
  have k2 := Int.mul_le_mul_of_nonneg_right h2 hb
  rw [Int.neg_mul] at k1
  exact ⟨k1, k2⟩
theorem whole_ok {n0 d0 n1 d1 n2 d2 : Int} (s : Sto) (f0 : Fr n0 d0) (f1 : Fr n1 d1) (f2 : Fr n2 d2) : g_whole [.tuple [fr n0 d0, fr n1 d1, fr n2 d2]] s = .ok (int3 (w3 n0 d0 n1 d1 n2 d2)) s := by
  have l0 : lc 1 d0 = d0 := lc_one d0
  have p1 := lc_pos f0.p f1.p
  have q1 := lc_le f0.p f1.p
  have b1 : lc d0 d1 < 2 ^ 120 := by
    have : d0 * d1 ≤ 2 ^ 60 * 2 ^ 60 := Int.mul_le_mul (by have := f0.d2; omega) (by have := f1.d2; omega) (by have := f1.p; omega) (by decide)
    have e : (2 : Int) ^ 60 * 2 ^ 60 = 2 ^ 120 := by decide
    have : d0 * d1 < 2 ^ 120 := by
      have h1 : d0 ≤ 2 ^ 60 - 1 := by have := f0.d2; omega
      have h2 : d1 ≤ 2 ^ 60 - 1 := by have := f1.d2; omega
      have := Int.mul_le_mul h1 h2 (by have := f1.p; omega) (by decide)
      have e2 : ((2 : Int) ^ 60 - 1) * (2 ^ 60 - 1) < 2 ^ 120 := by decide
      omega
    omega
  have p2 := lc_pos p1 f2.p
  have q2 := lc_le p1 f2.p
  have b2 : lc (lc d0 d1) d2 < 2 ^ 180 := by
    have h1 : lc d0 d1 ≤ 2 ^ 120 - 1 := by omega
    have h2 : d2 ≤ 2 ^ 60 - 1 := by have := f2.d2; omega
    have := Int.mul_le_mul h1 h2 (by have := f2.p; omega) (by decide)
    have e2 : ((2 : Int) ^ 120 - 1) * (2 ^ 60 - 1) < 2 ^ 180 := by decide
    omega
  have eL : wL d0 d1 d2 = lc (lc d0 d1) d2 := by unfold wL; rw [l0]
  -- the numbers
  have dv : ∀ {d : Int}, 0 < d → 0 ≤ wL d0 d1 d2 / d ∧ wL d0 d1 d2 / d < 2 ^ 180 := fun {d} hd => by
    have h1 : 0 ≤ wL d0 d1 d2 / d := Int.ediv_nonneg (by omega) (by omega)
    have h2 : wL d0 d1 d2 / d ≤ wL d0 d1 d2 := Int.ediv_le_self _ (by omega)
    exact ⟨h1, by omega⟩
  have nb : ∀ {n d : Int}, Fr n d → -(2 ^ 240 : Int) < n * (wL d0 d1 d2 / d) ∧ n * (wL d0 d1 d2 / d) < 2 ^ 240 := fun {n d} f => by
    obtain ⟨z1, z2⟩ := dv f.p
    obtain ⟨y1, y2⟩ := mul_bd (x := n) (a := 2 ^ 60) (by have := f.n1; omega) (by have := f.n2; omega) z1
    have : (2 : Int) ^ 60 * (wL d0 d1 d2 / d) ≤ 2 ^ 60 * (2 ^ 180 - 1) := Int.mul_le_mul_of_nonneg_left (by omega) (by decide)
    have e2 : (2 : Int) ^ 60 * (2 ^ 180 - 1) < 2 ^ 240 := by decide
    omega
  have c1 : ∀ {a b : Int}, 0 < a → a < 2 ^ 200 → 0 < b → b < 2 ^ 60 → cDiv a (Int.gcd a b) = true ∧ cMul (a / Int.gcd a b) b = true := fun {a b} ha ha2 hb hb2 => by
    have h1 := gcd_pos_l b ha
    have h2 := gcd_le_r a hb
    have h3 : a / Int.gcd a b ≤ a := Int.ediv_le_self _ (by omega)
    have h4 : 0 ≤ a / Int.gcd a b := Int.ediv_nonneg (by omega) (by omega)
    exact ⟨div_okW h1 (by omega), mul_okW (by omega) (by omega) (by omega) (by omega)⟩
  have k0 := c1 (a := 1) (b := d0) (by decide) (by decide) f0.p f0.d2
  have k1 := c1 f0.p (by have := f0.d2; omega) f1.p f1.d2
  have k2 := c1 p1 (by omega) f2.p f2.d2
  have g0 : cMul n0 (wL d0 d1 d2 / d0) = true := by obtain ⟨z1, z2⟩ := dv f0.p; exact mul_okW (by have := f0.n1; omega) (by have := f0.n2; omega) (by omega) (by omega)
  have g1 : cMul n1 (wL d0 d1 d2 / d1) = true := by obtain ⟨z1, z2⟩ := dv f1.p; exact mul_okW (by have := f1.n1; omega) (by have := f1.n2; omega) (by omega) (by omega)
  have g2 : cMul n2 (wL d0 d1 d2 / d2) = true := by obtain ⟨z1, z2⟩ := dv f2.p; exact mul_okW (by have := f2.n1; omega) (by have := f2.n2; omega) (by omega) (by omega)
  have e0 : cDiv (wL d0 d1 d2) d0 = true := div_okW f0.p (by have := f0.d2; omega)
  have e1 : cDiv (wL d0 d1 d2) d1 = true := div_okW f1.p (by have := f1.d2; omega)
  have e2 : cDiv (wL d0 d1 d2) d2 = true := div_okW f2.p (by have := f2.d2; omega)
  have i0 : ∀ (x y z : Dat), L2.atI [x, y, z] 0 = some x := fun _ _ _ => rfl
  have i1 : ∀ (x y z : Dat), L2.atI [x, y, z] 1 = some y := fun _ _ _ => rfl
  have i2 : ∀ (x y z : Dat), L2.atI [x, y, z] 2 = some z := fun _ _ _ => rfl
  obtain ⟨n01, n02⟩ := nb f0
  obtain ⟨n11, n12⟩ := nb f1
  obtain ⟨n21, n22⟩ := nb f2
  have mxb : 0 < mx (Int.gcd (Int.gcd (n0 * (wL d0 d1 d2 / d0)) (n1 * (wL d0 d1 d2 / d1))) (n2 * (wL d0 d1 d2 / d2))) ∧ mx (Int.gcd (Int.gcd (n0 * (wL d0 d1 d2 / d0)) (n1 * (wL d0 d1 d2 / d1))) (n2 * (wL d0 d1 d2 / d2))) < 2 ^ 241 := by
    have gb : ∀ {a b : Int}, a.natAbs < 2 ^ 240 → b.natAbs < 2 ^ 240 → Int.gcd a b < 2 ^ 240 := fun {a b} ha hb => by
      by_cases z : a = 0
      · subst z; rw [Int.zero_gcd]; exact hb
      · exact Nat.lt_of_le_of_lt (Int.gcd_le_natAbs_left b z) ha
    have h1 := gb (a := n0 * (wL d0 d1 d2 / d0)) (b := n1 * (wL d0 d1 d2 / d1)) (by omega) (by omega)
    have h2 := gb (a := (Int.gcd (n0 * (wL d0 d1 d2 / d0)) (n1 * (wL d0 d1 d2 / d1)) : Int)) (b := n2 * (wL d0 d1 d2 / d2)) (by omega) (by omega)
    unfold mx
    split <;> omega
  have mm : ∀ x : Int, maxL [1, x] = mx x := fun x => by
    unfold mx
    simp only [maxL]
    by_cases h : 1 < x
    · rw [if_pos h]; exact if_pos h
    · rw [if_neg h]; exact if_neg h
  have dm : ∀ x : Int, cDiv x (mx (Int.gcd (Int.gcd (n0 * (wL d0 d1 d2 / d0)) (n1 * (wL d0 d1 d2 / d1))) (n2 * (wL d0 d1 d2 / d2)))) = true := fun x => div_okW mxb.1 (by omega)
  have s1 : d0 / ↑(d0.gcd d1) * d1 = lc d0 d1 := rfl
  have s2 : (lc d0 d1) / ↑((lc d0 d1).gcd d2) * d2 = lc (lc d0 d1) d2 := rfl
  have d1' : cDiv 1 1 = true := by decide
  have m1' : cMul 1 d0 = true := mul_okW (by decide) (by decide) (by have := f0.p; omega) (by have := f0.d2; omega)
  unfold g_whole F_whole
  rw [eL] at g0 g1 g2 e0 e1 e2 mxb dm
  simp [B1_whole, E2_whole, E3_whole, common_ok, d1', m1', k1.1, k1.2, s1, k2.1, k2.2, s2, e0, e1, e2, g0, g1, g2, i0, i1, i2, mm, dm, w3, eL]

/-! ### the law's own claims of the whole form -/
theorem mx_pos (g : Int) : 0 < mx g := by unfold mx; split <;> omega
structure W3 (n0 d0 n1 d1 n2 d2 : Int) (t : Int × Int × Int) : Prop where
  gcd : (Int.gcd (Int.gcd t.1 t.2.1) t.2.2 : Int) = 0 ∨ (Int.gcd (Int.gcd t.1 t.2.1) t.2.2 : Int) = 1
  x01 : t.1 * n1 * d0 = t.2.1 * n0 * d1
  x02 : t.1 * n2 * d0 = t.2.2 * n0 * d2
  x12 : t.2.1 * n2 * d1 = t.2.2 * n1 * d2
  s0 : Int.sign t.1 = Int.sign n0
  s1 : Int.sign t.2.1 = Int.sign n1
  s2 : Int.sign t.2.2 = Int.sign n2
theorem sign_mul_pos {a b : Int} (hb : 0 < b) : Int.sign (a * b) = Int.sign a := by rw [Int.sign_mul, Int.sign_eq_one_of_pos hb, Int.mul_one]
theorem gcd3_mul (t0 t1 t2 : Int) (m : Nat) : Int.gcd (Int.gcd (m * t0) (m * t1)) (m * t2) = m * Int.gcd (Int.gcd t0 t1) t2 := by
  rw [Int.gcd_mul_left, Int.natAbs_natCast]
  push_cast
  rw [Int.gcd_mul_left, Int.natAbs_natCast]
theorem w3_is {n0 d0 n1 d1 n2 d2 : Int} (h0 : 0 < d0) (h1 : 0 < d1) (h2 : 0 < d2) : W3 n0 d0 n1 d1 n2 d2 (w3 n0 d0 n1 d1 n2 d2) := by
  have pL := wL_pos h0 h1 h2
  have v0 : d0 ∣ wL d0 d1 d2 := by unfold wL; rw [lc_one]; exact Int.dvd_trans (dvd_lc_l h0) (dvd_lc_l (lc_pos h0 h1))
  have v1 : d1 ∣ wL d0 d1 d2 := by unfold wL; rw [lc_one]; exact Int.dvd_trans (dvd_lc_r d0 d1) (dvd_lc_l (lc_pos h0 h1))
  have v2 : d2 ∣ wL d0 d1 d2 := dvd_lc_r _ _
  have e0 : wL d0 d1 d2 / d0 * d0 = wL d0 d1 d2 := Int.ediv_mul_cancel v0
  have e1 : wL d0 d1 d2 / d1 * d1 = wL d0 d1 d2 := Int.ediv_mul_cancel v1
  have e2 : wL d0 d1 d2 / d2 * d2 = wL d0 d1 d2 := Int.ediv_mul_cancel v2
  have qpos : ∀ {q d : Int}, 0 < d → q * d = wL d0 d1 d2 → 0 < q := fun {q d} hd e => by
    by_cases h : 0 < q
    · exact h
    · have := Int.mul_le_mul_of_nonneg_right (a := q) (b := 0) (c := d) (by omega) (by omega)
      omega
  have p0 := qpos h0 e0
  have p1 := qpos h1 e1
  have p2 := qpos h2 e2
  unfold w3
  simp only
  generalize wL d0 d1 d2 / d0 = q0 at *
  generalize wL d0 d1 d2 / d1 = q1 at *
  generalize wL d0 d1 d2 / d2 = q2 at *
  generalize hL : wL d0 d1 d2 = L at *
  have gd : ∀ N0 N1 N2 : Int, ∃ t0 t1 t2 m : Int, 0 < m ∧ N0 / mx (Int.gcd (Int.gcd N0 N1) N2) = t0 ∧ N1 / mx (Int.gcd (Int.gcd N0 N1) N2) = t1 ∧ N2 / mx (Int.gcd (Int.gcd N0 N1) N2) = t2 ∧ t0 * m = N0 ∧ t1 * m = N1 ∧ t2 * m = N2 ∧ ((Int.gcd (Int.gcd t0 t1) t2 : Int) = 0 ∨ (Int.gcd (Int.gcd t0 t1) t2 : Int) = 1) := by
    intro N0 N1 N2
    by_cases hz : Int.gcd (Int.gcd N0 N1) N2 = 0
    · have hz' := Int.gcd_eq_zero_iff.mp hz
      have hz2 := Int.gcd_eq_zero_iff.mp (show Int.gcd N0 N1 = 0 by have := hz'.1; omega)
      obtain ⟨z0, z1⟩ := hz2
      have z2 := hz'.2
      subst z0 z1 z2
      exact ⟨0, 0, 0, 1, by decide, by simp, by simp, by simp, by decide, by decide, by decide, by simp⟩
    · have hm : mx (Int.gcd (Int.gcd N0 N1) N2) = Int.gcd (Int.gcd N0 N1) N2 := by unfold mx; split <;> omega
      rw [hm]
      have hg : (0 : Int) < Int.gcd (Int.gcd N0 N1) N2 := by omega
      have w2 : (Int.gcd (Int.gcd N0 N1) N2 : Int) ∣ N2 := Int.gcd_dvd_right _ _
      have w01 : (Int.gcd (Int.gcd N0 N1) N2 : Int) ∣ (Int.gcd N0 N1 : Int) := Int.gcd_dvd_left _ _
      obtain ⟨t0, k0⟩ := Int.dvd_trans w01 (Int.gcd_dvd_left N0 N1)
      obtain ⟨t1, k1⟩ := Int.dvd_trans w01 (Int.gcd_dvd_right N0 N1)
      obtain ⟨t2, k2⟩ := w2
      have g3 := gcd3_mul t0 t1 t2 (Int.gcd (Int.gcd N0 N1) N2)
      rw [← k0, ← k1, ← k2] at g3
      generalize Int.gcd (Int.gcd N0 N1) N2 = g at *
      refine ⟨t0, t1, t2, g, hg, ?_, ?_, ?_, ?_, ?_, ?_, .inr ?_⟩
      · rw [k0, Int.mul_ediv_cancel_left _ (by omega)]
      · rw [k1, Int.mul_ediv_cancel_left _ (by omega)]
      · rw [k2, Int.mul_ediv_cancel_left _ (by omega)]
      · rw [k0, Int.mul_comm]
      · rw [k1, Int.mul_comm]
      · rw [k2, Int.mul_comm]
      · have h1 : g * Int.gcd (Int.gcd t0 t1) t2 = g * 1 := by omega
        have := Nat.eq_of_mul_eq_mul_left (by omega) h1
        omega
  obtain ⟨t0, t1, t2, m, hm, a0, a1, a2, c0, c1, c2, hg⟩ := gd (n0 * q0) (n1 * q1) (n2 * q2)
  rw [a0, a1, a2]
  have cancel : ∀ {x y : Int}, x * m = y * m → x = y := fun {x y} h => Int.eq_of_mul_eq_mul_right (by omega) h
  have sg : ∀ {t n q : Int}, 0 < q → t * m = n * q → Int.sign t = Int.sign n := fun {t n q} hq h => by rw [← sign_mul_pos (a := t) hm, h, sign_mul_pos hq]
  exact ⟨hg, cancel (by grind), cancel (by grind), cancel (by grind), sg p0 c0, sg p1 c1, sg p2 c2⟩
end LW

namespace LW
open PySem DL L2
structure Fs (n d : Int) : Prop where
  p : 0 < d
  q : d ≤ 100
  n1 : -100 ≤ n
  n2 : n ≤ 100
theorem Fs.fr {n d : Int} (h : Fs n d) : Fr n d := ⟨h.p, by have := h.q; omega, by have := h.n1; omega, by have := h.n2; omega⟩
theorem fs_draw (n d : Int) (h1 : -100 ≤ n) (h2 : n ≤ 100) (h3 : 0 < d) (h4 : d ≤ 100) : Fs (fnum n d) (fden n d) := by
  obtain ⟨a, b⟩ := fnum_abs n h3 h1 h2
  have c := fden_pos n h3
  have e := fden_le n h3
  exact ⟨c, by omega, by omega, by omega⟩
/-- one drawn fraction -/
theorem drawn_ok (cs : List Int) (k : Int) (e : Lcs) (hk : 0 ≤ k) (hk2 : k < 2 ^ 30) (he : e[1]? = some (.fz (cel 0))) : ∃ n d k', k ≤ k' ∧ k' ≤ k + 3 ∧ Fs n d ∧
    E1_law e (dst cs k) = .ok (fr n d) (dst cs k') := by
  obtain ⟨v, v0, v1, hv⟩ := next_ok cs k 4 hk (by omega) (by decide)
  by_cases h : 0 < v
  · obtain ⟨x, x0, x1, hx⟩ := next_ok cs (k + 1) 41 (by omega) (by omega) (by decide)
    obtain ⟨y, y0, y1, hy⟩ := next_ok cs (k + 1 + 1) 30 (by omega) (by omega) (by decide)
    have hf := lfrac_ok (x - 20) (1 + y) (dst cs (k + 1 + 1 + 1)) (by omega) (by omega)
    refine ⟨fnum (x - 20) (1 + y), fden (x - 20) (1 + y), k + 1 + 1 + 1, by omega, by omega, fs_draw _ _ (by omega) (by omega) (by omega) (by omega), ?_⟩
    unfold dst at *
    simp [E1_law, he, hv, h, hx, hy, hf]
  · refine ⟨0, 1, k + 1, by omega, by omega, ⟨by decide, by decide, by decide, by decide⟩, ?_⟩
    unfold dst at *
    simp [E1_law, he, hv, h]
theorem whole_again {t : Int × Int × Int} (s : Sto) (hg : (Int.gcd (Int.gcd t.1 t.2.1) t.2.2 : Int) = 0 ∨ (Int.gcd (Int.gcd t.1 t.2.1) t.2.2 : Int) = 1) (f0 : Fr t.1 1) (f1 : Fr t.2.1 1) (f2 : Fr t.2.2 1) :
    g_whole [.tuple [fr t.1 1, fr t.2.1 1, fr t.2.2 1]] s = .ok (int3 t) s := by
  rw [whole_ok s f0 f1 f2]
  have e : wL 1 1 1 = 1 := by decide
  have m1 : mx (Int.gcd (Int.gcd t.1 t.2.1) t.2.2) = 1 := by
    rcases hg with h | h <;> rw [h] <;> decide
  simp [w3, e, m1]
theorem ediv_bd {a m b : Int} (hm : 0 < m) (h1 : -b ≤ a) (h2 : a ≤ b) : -b ≤ a / m ∧ a / m ≤ b := by
  have e := Int.mul_ediv_add_emod a m
  have r0 := Int.emod_nonneg a (show m ≠ 0 by omega)
  have r1 := Int.emod_lt_of_pos a hm
  constructor
  · apply (Int.le_ediv_iff_mul_le hm).mpr
    have := Int.mul_le_mul_of_nonneg_left (a := 1) (b := m) (c := b) (by omega) (by omega)
    rw [Int.neg_mul]
    by_cases hb : b = 0
    · subst hb; omega
    · by_cases h0 : 0 ≤ a
      · omega
      · omega
  · have : a / m < b + 1 := Int.ediv_lt_of_lt_mul hm (by
      have := Int.mul_le_mul_of_nonneg_left (a := 1) (b := m) (c := b + 1) (by omega) (by omega)
      omega)
    omega
theorem w3_small {n0 d0 n1 d1 n2 d2 : Int} (f0 : Fs n0 d0) (f1 : Fs n1 d1) (f2 : Fs n2 d2) : Fr (w3 n0 d0 n1 d1 n2 d2).1 1 ∧ Fr (w3 n0 d0 n1 d1 n2 d2).2.1 1 ∧ Fr (w3 n0 d0 n1 d1 n2 d2).2.2 1 := by
  have pL := wL_pos f0.p f1.p f2.p
  have bL : wL d0 d1 d2 ≤ 1000000 := by
    unfold wL
    rw [lc_one]
    have h1 := lc_le f0.p f1.p
    have h2 := lc_le (lc_pos f0.p f1.p) f2.p
    have h3 := Int.mul_le_mul f0.q f1.q (by have := f1.p; omega) (by decide)
    have h4 := Int.mul_le_mul (show lc d0 d1 ≤ 10000 by omega) f2.q (by have := f2.p; omega) (by decide)
    omega
  have one : ∀ {n d : Int} (g : Int), Fs n d → Fr (n * (wL d0 d1 d2 / d) / mx g) 1 := fun {n d} g f => by
    have z1 : 0 ≤ wL d0 d1 d2 / d := Int.ediv_nonneg (by omega) (by have := f.p; omega)
    have z2 : wL d0 d1 d2 / d ≤ wL d0 d1 d2 := Int.ediv_le_self _ (by omega)
    obtain ⟨y1, y2⟩ := mul_bd (x := n) (a := 100) f.n1 f.n2 z1
    obtain ⟨x1, x2⟩ := ediv_bd (a := n * (wL d0 d1 d2 / d)) (m := mx g) (b := 100000000) (mx_pos g) (by omega) (by omega)
    exact ⟨by decide, by decide, by omega, by omega⟩
  exact ⟨one _ f0, one _ f1, one _ f2⟩
theorem turn_ok (cs : List Int) (k : Int) (sc : Slt) (a2 a3 a4 a5 a6 : Slt) (hk : 0 ≤ k) (hk2 : k < 2 ^ 30 - 100) : ∃ k' b3 b4 b5 b6, k ≤ k' ∧ k' ≤ k + 9 ∧
    B6_law [sc, .fz (cel 0), a2, a3, a4, a5, a6, .un, .un] (dst cs k) = .nx [sc, .fz (cel 0), a2, b3, b4, b5, b6, .un, .un] (dst cs k') := by
  obtain ⟨n0, d0, k1, p0, p1, f0, e0⟩ := drawn_ok cs k [sc, .fz (cel 0), a2, a3, a4, a5, a6, .fz (.int 0), .un] hk (by omega) rfl
  obtain ⟨n1, d1, k2, q0, q1, f1, e1⟩ := drawn_ok cs k1 [sc, .fz (cel 0), a2, a3, a4, a5, a6, .fz (.int 1), .un] (by omega) (by omega) rfl
  obtain ⟨n2, d2, k3, r0, r1, f2, e2⟩ := drawn_ok cs k2 [sc, .fz (cel 0), a2, a3, a4, a5, a6, .fz (.int 2), .un] (by omega) (by omega) rfl
  have hw := whole_ok (dst cs k3) f0.fr f1.fr f2.fr
  have W := w3_is (n0 := n0) (n1 := n1) (n2 := n2) f0.p f1.p f2.p
  obtain ⟨t0, t1, t2⟩ := w3_small f0 f1 f2
  have hw2 := whole_again (dst cs k3) W.gcd t0 t1 t2
  generalize w3 n0 d0 n1 d1 n2 d2 = t at *
  obtain ⟨t0', t1', t2'⟩ := t
  simp only at *
  have u0 : ups 0 3 = [PyData.int 0, PyData.int 1, PyData.int 2] := by simp [ups, List.range_succ]
  have c3 : cRng 3 = true := by decide
  have hg1 := lcommon_ok t0' t1' (dst cs k3) (by have := t1.n1; omega) (by have := t1.n2; omega)
  have hg2 := lcommon_ok (Int.gcd t0' t1') t2' (dst cs k3) (by have := t2.n1; omega) (by have := t2.n2; omega)
  refine ⟨k3, .fz (.tuple [fr n0 d0, fr n1 d1, fr n2 d2]), .fz (int3 (t0', t1', t2')), .fz (.int 1), .fz (.int 2), by omega, by omega, ?_⟩
  unfold dst at *
  have gg : (Int.gcd (Int.gcd t0' t1') t2' : Int) = 0 ∨ (Int.gcd (Int.gcd t0' t1') t2' : Int) = 1 := W.gcd
  have gi : isIn (.int (Int.gcd (Int.gcd t0' t1') t2')) (.tuple [.int 0, .int 1]) = some true := by
    rcases gg with h | h <;> rw [h] <;> decide +kernel
  have x01 : t0' * n1 * d0 = t1' * n0 * d1 := W.x01
  have x02 : t0' * n2 * d0 = t2' * n0 * d2 := W.x02
  have x12 : t1' * n2 * d1 = t2' * n1 * d2 := W.x12
  have s0 : Int.sign t0' = Int.sign n0 := W.s0
  have s1 : Int.sign t1' = Int.sign n1 := W.s1
  have s2 : Int.sign t2' = Int.sign n2 := W.s2
  have fm : ∀ {t n d : Int}, Fr t 1 → Fs n d → cMul t n = true ∧ -(2 ^ 120 : Int) < t * n ∧ t * n < 2 ^ 120 := fun {t n d} ht hn => by
    refine ⟨mul_ok (by have := ht.n1; omega) (by have := ht.n2; omega) (by have := hn.n1; omega) (by have := hn.n2; omega), ?_⟩
    have q1 := ht.n1
    have q2 := ht.n2
    have q3 := hn.n1
    have q4 := hn.n2
    have m1 : (t + 2 ^ 60) * (n + 100) ≥ 0 := Int.mul_nonneg (by omega) (by omega)
    have m2 : (t + 2 ^ 60) * (100 - n) ≥ 0 := Int.mul_nonneg (by omega) (by omega)
    have m3 : (2 ^ 60 - t) * (n + 100) ≥ 0 := Int.mul_nonneg (by omega) (by omega)
    have m4 : (2 ^ 60 - t) * (100 - n) ≥ 0 := Int.mul_nonneg (by omega) (by omega)
    rw [Int.add_mul, Int.mul_add] at m1
    rw [Int.add_mul, Int.mul_sub] at m2
    rw [Int.sub_mul, Int.mul_add] at m3
    rw [Int.sub_mul, Int.mul_sub] at m4
    constructor <;> omega
  have fd : ∀ {x n d : Int}, -(2 ^ 120 : Int) < x → x < 2 ^ 120 → Fs n d → cMul x d = true := fun {x n d} h1 h2 hd => mul_okW (by omega) (by omega) (by have := hd.p; omega) (by have := hd.q; omega)
  have b01 := fm t0 f1
  have b10 := fm t1 f0
  have b02 := fm t0 f2
  have b20 := fm t2 f0
  have b12 := fm t1 f2
  have b21 := fm t2 f1
  simp [B6_law, c3, u0, e0, e1, e2, hw, hg1, hg2, gNe, gi, B2_law, b01.1, b10.1, b02.1, b20.1, b12.1, b21.1, fd b01.2.1 b01.2.2 f0, fd b10.2.1 b10.2.2 f1, fd b02.2.1 b02.2.2 f0, fd b20.2.1 b20.2.2 f2, fd b12.2.1 b12.2.2 f1, fd b21.2.1 b21.2.2 f2,
    x01, x02, x12, E3_law, E4_law, E5_law, lsign_ok, s0, s1, s2, hw2, SeqAt.shaped, PyData.canLay0, PyData.canLayAll0, PyData.depth, PyData.depthAll, PyData.eqv, PyData.eqvAll]
theorem turns_ok (cs : List Int) (sc : Slt) : ∀ (ks : List Dat) (k : Int) (a2 a3 a4 a5 a6 : Slt), 0 ≤ k → k + 9 * ks.length < 2 ^ 30 - 100 → ∃ k' b2 b3 b4 b5 b6,
    forL (gSet 2) B6_law ks [sc, .fz (cel 0), a2, a3, a4, a5, a6, .un, .un] (dst cs k) = .nx [sc, .fz (cel 0), b2, b3, b4, b5, b6, .un, .un] (dst cs k') := by
  intro ks
  induction ks with
  | nil => intro k a2 a3 a4 a5 a6 _ _; exact ⟨k, a2, a3, a4, a5, a6, by simp⟩
  | cons d ks ih =>
    intro k a2 a3 a4 a5 a6 h1 h2
    simp only [List.length_cons] at h2
    obtain ⟨k1, b3, b4, b5, b6, q1, q2, e⟩ := turn_ok cs k sc (.fz d) a3 a4 a5 a6 h1 (by omega)
    obtain ⟨k2, c2, c3, c4, c5, c6, e2⟩ := ih k1 (.fz d) b3 b4 b5 b6 (by omega) (by omega)
    exact ⟨k2, c2, c3, c4, c5, c6, by simp [e, e2]⟩
theorem law_true (ns : List Int) (h : ns.length ≤ 63) : ∃ s, g_law [seal_ ns] [] = .ok (.bool true) s := by
  have c12 : cRng 12 = true := by decide
  have hcut : ∃ cs : List Int, cutD (ns.map PyData.int) none (some 63) = cs.map PyData.int := by
    unfold cutD
    exact ⟨_, by rw [← List.map_drop, ← List.map_take]⟩
  obtain ⟨cs, hcs⟩ := hcut
  obtain ⟨k', b2, b3, b4, b5, b6, e⟩ := turns_ok cs (.fz (seal_ ns)) (ups 0 12) 0 .un .un .un .un .un (by decide) (by rw [ups_length]; decide)
  have w0 := whole_ok (n0 := 0) (d0 := 1) (n1 := 0) (d1 := 1) (n2 := 0) (d2 := 1) (dst cs k') ⟨by decide, by decide, by decide, by decide⟩ ⟨by decide, by decide, by decide, by decide⟩ ⟨by decide, by decide, by decide, by decide⟩
  have w00 : w3 0 1 0 1 0 1 = (0, 0, 0) := by decide
  rw [w00] at w0
  refine ⟨dst cs k', ?_⟩
  unfold dst at *
  unfold g_law F_law
  simp [c12, hcs, e, w0, gEq, SeqAt.shaped, PyData.canLay0, PyData.canLayAll0, PyData.depth, PyData.depthAll, PyData.eqv, PyData.eqvAll]
end LW

namespace LW
open PySem PySem.Spec PyProof.Rows L2 DL
def topS (i : Nat) : Stmt := PySem.Challenge.pw_justthepart_k01_whole_polynomials.main.body.getD i (.Pass ⟨0, 0, 0, 0⟩)
abbrev s_common : Stmt := topS 1
theorem sc_common : FnScope ["a", "b"] ["a", "b"] (defScope s_common) := ⟨rfl, rfl, rfl, by decide +kernel, rfl, by decide +kernel, by decide +kernel⟩
abbrev s_whole : Stmt := topS 3
theorem sc_whole : FnScope ["poly", "by", "n", "d", "numbers", "least", "number"] ["poly"] (defScope s_whole) := ⟨rfl, rfl, rfl, by decide +kernel, rfl, by decide +kernel, by decide +kernel⟩
abbrev s__law_cell_at : Stmt := topS 5
theorem sc__law_cell_at : FnScope ["_law_script", "_law_k"] ["_law_script", "_law_k"] (defScope s__law_cell_at) := ⟨rfl, rfl, rfl, by decide +kernel, rfl, by decide +kernel, by decide +kernel⟩
abbrev s__law_draw : Stmt := topS 6
theorem sc__law_draw : FnScope ["_law_cell", "_law_k", "_law_bound", "_law_primes"] ["_law_cell", "_law_k", "_law_bound"] (defScope s__law_draw) := ⟨rfl, rfl, rfl, by decide +kernel, rfl, by decide +kernel, by decide +kernel⟩
abbrev s__law_number : Stmt := topS 7
theorem sc__law_number : FnScope ["_law_cell", "_law_k", "_law_bound", "_law_power", "_law_lap", "_law_remains", "_law_small"] ["_law_cell", "_law_k", "_law_bound"] (defScope s__law_number) := ⟨rfl, rfl, rfl, by decide +kernel, rfl, by decide +kernel, by decide +kernel⟩
abbrev s__law_next : Stmt := topS 8
theorem sc__law_next : FnScope ["_law_draw_here", "_law_bound", "_law_at", "_law_cell"] ["_law_draw_here", "_law_bound"] (defScope s__law_next) := ⟨rfl, rfl, rfl, by decide +kernel, rfl, by decide +kernel, by decide +kernel⟩
abbrev s__law_common : Stmt := topS 9
theorem sc__law_common : FnScope ["_law_a", "_law_b", "_law_lap"] ["_law_a", "_law_b"] (defScope s__law_common) := ⟨rfl, rfl, rfl, by decide +kernel, rfl, by decide +kernel, by decide +kernel⟩
abbrev s__law_frac : Stmt := topS 10
theorem sc__law_frac : FnScope ["_law_n", "_law_d", "_law_by"] ["_law_n", "_law_d"] (defScope s__law_frac) := ⟨rfl, rfl, rfl, by decide +kernel, rfl, by decide +kernel, by decide +kernel⟩
abbrev s__law_sign : Stmt := topS 11
theorem sc__law_sign : FnScope ["_law_number_here"] ["_law_number_here"] (defScope s__law_sign) := ⟨rfl, rfl, rfl, by decide +kernel, rfl, by decide +kernel, by decide +kernel⟩
abbrev s_law : Stmt := topS 12
theorem sc_law : FnScope ["_law_script", "_law_draw_here", "_law_turn", "_law_poly", "_law_told", "_law_one", "_law_other", "_law_at", "_law_number_here"] ["_law_script"] (defScope s_law) := ⟨rfl, rfl, rfl, by decide +kernel, rfl, by decide +kernel, by decide +kernel⟩
section
variable {P : Program} {w : World} {K : PySem.W.Frag} {mg : Str → Option Value} {base : Heap}
theorem ok_common {f : Addr} {fd : FuncData} (D : Fun K "common" "common" s_common f fd) (mm_abs : mg "abs" = none) : FnOk P w K mg base CX0 1 f fd ["a", "b"] (spF K g_common) :=
  def_ok D sc_common (by decide) fun cdv A outer s H E H0 as0 O0 hr => by
    have nd := sc_common.nd
    exact (ds_cons (ds_par 0 1 rfl nd (da_cons (de_abs mm_abs (da_cons (de_var 0) da_nil)) (da_cons (de_abs mm_abs (da_cons (de_var 1) da_nil)) da_nil)))
    (ds_cons (ds_while PassesOwn.never (dt_gt (de_var 1) de_int) (ds_one (ds_par 0 1 rfl nd (da_cons (de_var 1) (da_cons (de_mod (de_var 0) (de_var 1)) da_nil)))))
    (ds_one (ds_ret (de_var 0)))))
theorem ok_whole {f : Addr} {fd : FuncData} (D : Fun K "whole" "whole" s_whole f fd) {f_common : Addr} {fd_common : FuncData} (G_common : FnOk P w K mg base CX0 1 f_common fd_common ["a", "b"] (spF K g_common)) (m_common : mg "common" = some (.ref f_common)) (k_common : PySem.W.keepIn K (.ref f_common) = true) (b_common : Binds K fd_common ["a", "b"] []) (mm_max : mg "max" = none) (mm_tuple : mg "tuple" = none) : FnOk P w K mg base CX0 2 f fd ["poly"] (spF K g_whole) :=
  def_ok D sc_whole (by decide) fun cdv A outer s H E H0 as0 O0 hr => by
    have nd := sc_whole.nd
    exact (ds_cons (ds_set 1 nd de_int)
    (ds_cons (ds_for PassesOwn.never rfl (di_seq rfl (de_var 0)) (dg_tup rfl rfl (dgs_cons (dg_name 2 nd) (dgs_cons (dg_name 3 nd) dgs_nil))) (ds_one (ds_set 1 nd (de_mul (de_fdiv (de_var 1) (de_call G_common (hr.mono (by decide)) m_common k_common b_common pass0 (da_cons (de_var 1) (da_cons (de_var 3) da_nil)))) (de_var 3)))))
    (ds_cons (ds_setLc 4 (own := [("n", 2), ("d", 3)]) rfl nd (blkOk_by (N := ["poly", "by", "n", "d", "numbers", "least", "number"]) (sc := defScope s_whole) (by decide +kernel)) (sw_true rfl rfl rfl (by decide +kernel)) (di_seq rfl (de_var 0)) (fun _ _ _ _ _ => (dg_tup rfl rfl (dgs_cons (dg_name 2 nd) (dgs_cons (dg_name 3 nd) dgs_nil)))) (fun _ _ _ _ _ => dts_nil) (fun _ _ _ _ _ => (de_mul (de_var 2) (de_fdiv (de_var 1) (de_var 3)))))
    (ds_cons (ds_set 5 nd (de_call G_common (hr.mono (by decide)) m_common k_common b_common pass0 (da_cons (de_call G_common (hr.mono (by decide)) m_common k_common b_common pass0 (da_cons (de_ix rfl (de_var 4) de_int) (da_cons (de_ix rfl (de_var 4) de_int) da_nil))) (da_cons (de_ix rfl (de_var 4) de_int) da_nil))))
    (ds_one (ds_ret (de_tupOf rfl mm_tuple (da_cons (de_lc (own := [("number", 6)]) rfl nd (blkOk_by (N := ["poly", "by", "n", "d", "numbers", "least", "number"]) (sc := defScope s_whole) (by decide +kernel)) (di_seq rfl (de_var 4)) (fun _ _ _ _ _ => (dg_name 6 nd)) (fun _ _ _ _ _ => dts_nil) (fun _ _ _ _ _ => (de_fdiv (de_var 6) (de_max rfl rfl mm_max (da_cons (de_lst (da_cons de_int (da_cons (de_var 5) da_nil))) da_nil))))) da_nil))))))))
theorem ok__law_cell_at {f : Addr} {fd : FuncData} (D : Fun K "_law_cell_at" "_law_cell_at" s__law_cell_at f fd) (mm_len : mg "len" = none) : FnOk P w K mg base CX0 1 f fd ["_law_script", "_law_k"] (spF K g__law_cell_at) :=
  def_ok D sc__law_cell_at (by decide) fun cdv A outer s H E H0 as0 O0 hr => by
    have nd := sc__law_cell_at.nd
    exact (ds_cons (ds_if (dt_lt (de_var 1) (de_len rfl mm_len (da_cons (de_var 0) da_nil))) (ds_one (ds_ret (de_ix rfl (de_var 0) (de_var 1)))) ds_nil)
    (ds_one (ds_ret de_int)))
theorem ok__law_draw {f : Addr} {fd : FuncData} (D : Fun K "_law_draw" "_law_draw" s__law_draw f fd) (mm_int : mg "int" = none) : FnOk P w K mg base CX0 1 f fd ["_law_cell", "_law_k", "_law_bound"] (spF K g__law_draw) :=
  def_ok D sc__law_draw (by decide) fun cdv A outer s H E H0 as0 O0 hr => by
    have nd := sc__law_draw.nd
    exact (ds_cons (ds_set 3 nd (de_tup (da_cons de_int (da_cons de_int (da_cons de_int (da_cons de_int (da_cons de_int (da_cons de_int (da_cons de_int (da_cons de_int (da_cons de_int (da_cons de_int (da_cons de_int (da_cons de_int (da_cons de_int (da_cons de_int (da_cons de_int (da_cons de_int da_nil))))))))))))))))))
    (ds_one (ds_ret (de_mod (de_mod (de_intOf mm_int (da_cons (de_add rfl (de_mul (de_var 0) de_int) (de_mul (de_var 1) de_int)) da_nil)) (de_ix rfl (de_var 3) (de_mod (de_intOf mm_int (da_cons (de_var 1) da_nil)) de_int))) (de_var 2)))))
theorem ok__law_number {f : Addr} {fd : FuncData} (D : Fun K "_law_number" "_law_number" s__law_number f fd) {f__law_draw : Addr} {fd__law_draw : FuncData} (G__law_draw : FnOk P w K mg base CX0 1 f__law_draw fd__law_draw ["_law_cell", "_law_k", "_law_bound"] (spF K g__law_draw)) (m__law_draw : mg "_law_draw" = some (.ref f__law_draw)) (k__law_draw : PySem.W.keepIn K (.ref f__law_draw) = true) (b__law_draw : Binds K fd__law_draw ["_law_cell", "_law_k", "_law_bound"] []) (mm_int : mg "int" = none) (mm_range : mg "range" = none) : FnOk P w K mg base CX0 2 f fd ["_law_cell", "_law_k", "_law_bound"] (spF K g__law_number) :=
  def_ok D sc__law_number (by decide) fun cdv A outer s H E H0 as0 O0 hr => by
    have nd := sc__law_number.nd
    exact (ds_cons (ds_set 3 nd de_int)
    (ds_cons (ds_for PassesOwn.never rfl (di_range1 mm_range (da_cons (de_mod (de_intOf mm_int (da_cons (de_var 1) da_nil)) de_int) da_nil)) (dg_name 4 nd) (ds_one (ds_set 3 nd (de_mul (de_var 3) de_int))))
    (ds_cons (ds_set 5 nd (de_fdiv (de_sub (de_var 0) (de_pow de_int de_int)) (de_var 3)))
    (ds_cons (ds_if (dt_gt (de_var 5) de_int) (ds_one (ds_ret (de_mod (de_mod (de_intOf mm_int (da_cons (de_var 5) da_nil)) de_int) (de_var 2)))) ds_nil)
    (ds_cons (ds_set 6 nd (de_mod (de_intOf mm_int (da_cons (de_var 0) da_nil)) de_int))
    (ds_one (ds_ret (de_mod (de_call G__law_draw (hr.mono (by decide)) m__law_draw k__law_draw b__law_draw pass0 (da_cons (de_mul (de_add rfl (de_var 6) (de_mul de_int (de_var 1))) (de_add rfl (de_add rfl (de_var 6) (de_mul de_int (de_var 1))) de_int)) (da_cons (de_add rfl (de_mod (de_intOf mm_int (da_cons (de_var 1) da_nil)) de_int) de_int) (da_cons de_int da_nil)))) (de_var 2)))))))))
theorem ok__law_next {f : Addr} {fd : FuncData} (D : Fun K "_law_next" "_law_next" s__law_next f fd) {f__law_cell_at : Addr} {fd__law_cell_at : FuncData} (G__law_cell_at : FnOk P w K mg base CX0 1 f__law_cell_at fd__law_cell_at ["_law_script", "_law_k"] (spF K g__law_cell_at)) (m__law_cell_at : mg "_law_cell_at" = some (.ref f__law_cell_at)) (k__law_cell_at : PySem.W.keepIn K (.ref f__law_cell_at) = true) (b__law_cell_at : Binds K fd__law_cell_at ["_law_script", "_law_k"] []) {f__law_number : Addr} {fd__law_number : FuncData} (G__law_number : FnOk P w K mg base CX0 2 f__law_number fd__law_number ["_law_cell", "_law_k", "_law_bound"] (spF K g__law_number)) (m__law_number : mg "_law_number" = some (.ref f__law_number)) (k__law_number : PySem.W.keepIn K (.ref f__law_number) = true) (b__law_number : Binds K fd__law_number ["_law_cell", "_law_k", "_law_bound"] []) (mm_int : mg "int" = none) : FnOk P w K mg base CX0 3 f fd ["_law_draw_here", "_law_bound"] (spF K g__law_next) :=
  def_ok D sc__law_next (by decide) fun cdv A outer s H E H0 as0 O0 hr => by
    have nd := sc__law_next.nd
    exact (ds_cons (ds_item (de_add rfl (de_ix rfl (de_var 0) de_int) de_int) (de_var 0) de_int)
    (ds_cons (ds_set 2 nd (de_fdiv (de_ix rfl (de_var 0) de_int) de_int))
    (ds_cons (ds_set 3 nd (de_add rfl (de_call G__law_cell_at (hr.mono (by decide)) m__law_cell_at k__law_cell_at b__law_cell_at pass0 (da_cons (de_ix rfl (de_var 0) de_int) (da_cons (de_add rfl (de_ix rfl (de_var 0) de_int) (de_var 2)) da_nil))) (de_mul de_int (de_var 2))))
    (ds_one (ds_ret (de_call G__law_number (hr.mono (by decide)) m__law_number k__law_number b__law_number pass0 (da_cons (de_var 3) (da_cons (de_add rfl (de_mod (de_intOf mm_int (da_cons (de_ix rfl (de_var 0) de_int) da_nil)) de_int) de_int) (da_cons (de_var 1) da_nil)))))))))
theorem ok__law_common {f : Addr} {fd : FuncData} (D : Fun K "_law_common" "_law_common" s__law_common f fd) (mm_abs : mg "abs" = none) (mm_range : mg "range" = none) : FnOk P w K mg base CX0 1 f fd ["_law_a", "_law_b"] (spF K g__law_common) :=
  def_ok D sc__law_common (by decide) fun cdv A outer s H E H0 as0 O0 hr => by
    have nd := sc__law_common.nd
    exact (ds_cons (ds_par 0 1 rfl nd (da_cons (de_abs mm_abs (da_cons (de_var 0) da_nil)) (da_cons (de_abs mm_abs (da_cons (de_var 1) da_nil)) da_nil)))
    (ds_cons (ds_for PassesOwn.never rfl (di_range1 mm_range (da_cons de_int da_nil)) (dg_name 2 nd) (ds_cons (ds_if (dt_eq hr.units rfl (de_var 1) de_int) (ds_one (ds_ret (de_var 0))) ds_nil)
    (ds_one (ds_par 0 1 rfl nd (da_cons (de_var 1) (da_cons (de_mod (de_var 0) (de_var 1)) da_nil))))))
    (ds_one (ds_ret (de_var 0)))))
theorem ok__law_frac {f : Addr} {fd : FuncData} (D : Fun K "_law_frac" "_law_frac" s__law_frac f fd) {f__law_common : Addr} {fd__law_common : FuncData} (G__law_common : FnOk P w K mg base CX0 1 f__law_common fd__law_common ["_law_a", "_law_b"] (spF K g__law_common)) (m__law_common : mg "_law_common" = some (.ref f__law_common)) (k__law_common : PySem.W.keepIn K (.ref f__law_common) = true) (b__law_common : Binds K fd__law_common ["_law_a", "_law_b"] []) : FnOk P w K mg base CX0 2 f fd ["_law_n", "_law_d"] (spF K g__law_frac) :=
  def_ok D sc__law_frac (by decide) fun cdv A outer s H E H0 as0 O0 hr => by
    have nd := sc__law_frac.nd
    exact (ds_cons (ds_if (dt_lt (de_var 1) de_int) (ds_one (ds_par 0 1 rfl nd (da_cons (de_neg (de_var 0)) (da_cons (de_neg (de_var 1)) da_nil)))) ds_nil)
    (ds_cons (ds_set 2 nd (de_call G__law_common (hr.mono (by decide)) m__law_common k__law_common b__law_common pass0 (da_cons (de_var 0) (da_cons (de_var 1) da_nil))))
    (ds_one (ds_ret (de_tup (da_cons (de_fdiv (de_var 0) (de_var 2)) (da_cons (de_fdiv (de_var 1) (de_var 2)) da_nil)))))))
theorem ok__law_sign {f : Addr} {fd : FuncData} (D : Fun K "_law_sign" "_law_sign" s__law_sign f fd) : FnOk P w K mg base CX0 1 f fd ["_law_number_here"] (spF K g__law_sign) :=
  def_ok D sc__law_sign (by decide) fun cdv A outer s H E H0 as0 O0 hr => by
    have nd := sc__law_sign.nd
    exact (ds_one (ds_ret (de_if (dt_gt (de_var 0) de_int) de_int (de_if (dt_eq hr.units rfl (de_var 0) de_int) de_int (de_neg de_int)))))
theorem ok_law {f : Addr} {fd : FuncData} (D : Fun K "law" "law" s_law f fd) {f__law_next : Addr} {fd__law_next : FuncData} (G__law_next : FnOk P w K mg base CX0 3 f__law_next fd__law_next ["_law_draw_here", "_law_bound"] (spF K g__law_next)) (m__law_next : mg "_law_next" = some (.ref f__law_next)) (k__law_next : PySem.W.keepIn K (.ref f__law_next) = true) (b__law_next : Binds K fd__law_next ["_law_draw_here", "_law_bound"] []) {f__law_frac : Addr} {fd__law_frac : FuncData} (G__law_frac : FnOk P w K mg base CX0 2 f__law_frac fd__law_frac ["_law_n", "_law_d"] (spF K g__law_frac)) (m__law_frac : mg "_law_frac" = some (.ref f__law_frac)) (k__law_frac : PySem.W.keepIn K (.ref f__law_frac) = true) (b__law_frac : Binds K fd__law_frac ["_law_n", "_law_d"] []) {f_whole : Addr} {fd_whole : FuncData} (G_whole : FnOk P w K mg base CX0 2 f_whole fd_whole ["poly"] (spF K g_whole)) (m_whole : mg "whole" = some (.ref f_whole)) (k_whole : PySem.W.keepIn K (.ref f_whole) = true) (b_whole : Binds K fd_whole ["poly"] []) {f__law_common : Addr} {fd__law_common : FuncData} (G__law_common : FnOk P w K mg base CX0 1 f__law_common fd__law_common ["_law_a", "_law_b"] (spF K g__law_common)) (m__law_common : mg "_law_common" = some (.ref f__law_common)) (k__law_common : PySem.W.keepIn K (.ref f__law_common) = true) (b__law_common : Binds K fd__law_common ["_law_a", "_law_b"] []) {f__law_sign : Addr} {fd__law_sign : FuncData} (G__law_sign : FnOk P w K mg base CX0 1 f__law_sign fd__law_sign ["_law_number_here"] (spF K g__law_sign)) (m__law_sign : mg "_law_sign" = some (.ref f__law_sign)) (k__law_sign : PySem.W.keepIn K (.ref f__law_sign) = true) (b__law_sign : Binds K fd__law_sign ["_law_number_here"] []) (mm_isinstance : mg "isinstance" = none) (mm_len : mg "len" = none) (mm_range : mg "range" = none) (mm_tuple : mg "tuple" = none) : FnOk P w K mg base CX0 4 f fd ["_law_script"] (spF K g_law) :=
  def_ok D sc_law (by decide) fun cdv A outer s H E H0 as0 O0 hr => by
    have nd := sc_law.nd
    exact (ds_cons (ds_setCell 1 nd (da_cons (de_slice rfl (de_var 0) do_none (do_some de_int)) (da_cons de_int (da_cons de_int da_nil))))
    (ds_cons (ds_for PassesOwn.never rfl (di_range1 mm_range (da_cons de_int da_nil)) (dg_name 2 nd) (ds_cons (ds_set 3 nd (de_tupOf rfl mm_tuple (da_cons (de_lc (own := [("_law_at", 7)]) rfl nd (blkOk_by (N := ["_law_script", "_law_draw_here", "_law_turn", "_law_poly", "_law_told", "_law_one", "_law_other", "_law_at", "_law_number_here"]) (sc := defScope s_law) (by decide +kernel)) (di_range1 mm_range (da_cons de_int da_nil)) (fun _ _ _ _ _ => (dg_name 7 nd)) (fun _ _ _ _ _ => dts_nil) (fun _ _ _ _ _ => (de_if (dt_gt (de_call G__law_next (hr.mono (by decide)) m__law_next k__law_next b__law_next pass0 (da_cons (de_var 1) (da_cons de_int da_nil))) de_int) (de_call G__law_frac (hr.mono (by decide)) m__law_frac k__law_frac b__law_frac pass0 (da_cons (de_sub (de_call G__law_next (hr.mono (by decide)) m__law_next k__law_next b__law_next pass0 (da_cons (de_var 1) (da_cons de_int da_nil))) de_int) (da_cons (de_add rfl de_int (de_call G__law_next (hr.mono (by decide)) m__law_next k__law_next b__law_next pass0 (da_cons (de_var 1) (da_cons de_int da_nil)))) da_nil))) (de_tup (da_cons de_int (da_cons de_int da_nil)))))) da_nil)))
    (ds_cons (ds_set 4 nd (de_call G_whole (hr.mono (by decide)) m_whole k_whole b_whole pass0 (da_cons (de_var 3) da_nil)))
    (ds_cons (ds_if (dt_bool (dw_or (dt_not (dt_val (de_isi "tuple" rfl mm_isinstance mm_tuple (by decide +kernel) (de_var 4)))) (dw_or (dt_ne hr.units rfl (de_len rfl mm_len (da_cons (de_var 4) da_nil)) de_int) (dw_or1 (dt_notIn hr rfl (de_call G__law_common (hr.mono (by decide)) m__law_common k__law_common b__law_common pass0 (da_cons (de_call G__law_common (hr.mono (by decide)) m__law_common k__law_common b__law_common pass0 (da_cons (de_ix rfl (de_var 4) de_int) (da_cons (de_ix rfl (de_var 4) de_int) da_nil))) (da_cons (de_ix rfl (de_var 4) de_int) da_nil))) (de_tup (da_cons de_int (da_cons de_int da_nil)))))))) (ds_one (ds_ret de_bl)) ds_nil)
    (ds_cons (ds_for PassesOwn.never rfl (di_seq rfl (de_tup (da_cons (de_tup (da_cons de_int (da_cons de_int da_nil))) (da_cons (de_tup (da_cons de_int (da_cons de_int da_nil))) (da_cons (de_tup (da_cons de_int (da_cons de_int da_nil))) da_nil))))) (dg_tup rfl rfl (dgs_cons (dg_name 5 nd) (dgs_cons (dg_name 6 nd) dgs_nil))) (ds_one (ds_if (dt_ne hr.units rfl (de_mul (de_mul (de_ix rfl (de_var 4) (de_var 5)) (de_ix rfl (de_ix rfl (de_var 3) (de_var 6)) de_int)) (de_ix rfl (de_ix rfl (de_var 3) (de_var 5)) de_int)) (de_mul (de_mul (de_ix rfl (de_var 4) (de_var 6)) (de_ix rfl (de_ix rfl (de_var 3) (de_var 5)) de_int)) (de_ix rfl (de_ix rfl (de_var 3) (de_var 6)) de_int))) (ds_one (ds_ret de_bl)) ds_nil)))
    (ds_cons (ds_if (dt_ne hr.units rfl (de_lc (own := [("_law_number_here", 8)]) rfl nd (blkOk_by (N := ["_law_script", "_law_draw_here", "_law_turn", "_law_poly", "_law_told", "_law_one", "_law_other", "_law_at", "_law_number_here"]) (sc := defScope s_law) (by decide +kernel)) (di_seq rfl (de_var 4)) (fun _ _ _ _ _ => (dg_name 8 nd)) (fun _ _ _ _ _ => dts_nil) (fun _ _ _ _ _ => (de_call G__law_sign (hr.mono (by decide)) m__law_sign k__law_sign b__law_sign pass0 (da_cons (de_var 8) da_nil)))) (de_lc (own := [("_law_number_here", 8)]) rfl nd (blkOk_by (N := ["_law_script", "_law_draw_here", "_law_turn", "_law_poly", "_law_told", "_law_one", "_law_other", "_law_at", "_law_number_here"]) (sc := defScope s_law) (by decide +kernel)) (di_seq rfl (de_var 3)) (fun _ _ _ _ _ => (dg_name 8 nd)) (fun _ _ _ _ _ => dts_nil) (fun _ _ _ _ _ => (de_call G__law_sign (hr.mono (by decide)) m__law_sign k__law_sign b__law_sign pass0 (da_cons (de_ix rfl (de_var 8) de_int) da_nil))))) (ds_one (ds_ret de_bl)) ds_nil)
    (ds_one (ds_if (dt_ne hr.units rfl (de_call G_whole (hr.mono (by decide)) m_whole k_whole b_whole pass0 (da_cons (de_tupOf rfl mm_tuple (da_cons (de_lc (own := [("_law_number_here", 8)]) rfl nd (blkOk_by (N := ["_law_script", "_law_draw_here", "_law_turn", "_law_poly", "_law_told", "_law_one", "_law_other", "_law_at", "_law_number_here"]) (sc := defScope s_law) (by decide +kernel)) (di_seq rfl (de_var 4)) (fun _ _ _ _ _ => (dg_name 8 nd)) (fun _ _ _ _ _ => dts_nil) (fun _ _ _ _ _ => (de_tup (da_cons (de_var 8) (da_cons de_int da_nil))))) da_nil)) da_nil)) (de_var 4)) (ds_one (ds_ret de_bl)) ds_nil))))))))
    (ds_one (ds_ret (de_eq hr.units rfl (de_call G_whole (hr.mono (by decide)) m_whole k_whole b_whole pass0 (da_cons (de_tup (da_cons (de_tup (da_cons de_int (da_cons de_int da_nil))) (da_cons (de_tup (da_cons de_int (da_cons de_int da_nil))) (da_cons (de_tup (da_cons de_int (da_cons de_int da_nil))) da_nil)))) da_nil)) (de_tup (da_cons de_int (da_cons de_int (da_cons de_int da_nil)))))))))
end
theorem all_mk {l : PySem.W.OpenLaw} {w : World} {K : PySem.W.Frag} {h : Heap} {mg : Str → Option Value} {fa : Addr} (X : K.In h) (G : h.Ns mainGlobals mg) (hfa : mg "law" = some (.ref fa))
    {f0 : Addr} {od0 an0 : Option Addr} {sl0 : Array (Option Value)} {oc0 kV0 dc0 pm0 cd0 ct0 : Value} (a0 : PySem.W.nsIn K mainGlobals "_law_cell_at" = some (some (.ref f0))) (l0 : K.lookup f0 = some ⟨oc0, od0, .func (PySem.W.fnOf "_law_cell_at" "_law_cell_at" (defArgs s__law_cell_at) (defBody s__law_cell_at) (defScope s__law_cell_at) .none kV0 dc0 pm0 an0 cd0 ct0), sl0⟩) (c0 : PySem.W.codeIn K cd0 "_law_cell_at" = true) (k0 : PySem.W.keepIn K (.ref f0) = true)
    {f1 : Addr} {od1 an1 : Option Addr} {sl1 : Array (Option Value)} {oc1 kV1 dc1 pm1 cd1 ct1 : Value} (a1 : PySem.W.nsIn K mainGlobals "_law_draw" = some (some (.ref f1))) (l1 : K.lookup f1 = some ⟨oc1, od1, .func (PySem.W.fnOf "_law_draw" "_law_draw" (defArgs s__law_draw) (defBody s__law_draw) (defScope s__law_draw) .none kV1 dc1 pm1 an1 cd1 ct1), sl1⟩) (c1 : PySem.W.codeIn K cd1 "_law_draw" = true) (k1 : PySem.W.keepIn K (.ref f1) = true)
    {f2 : Addr} {od2 an2 : Option Addr} {sl2 : Array (Option Value)} {oc2 kV2 dc2 pm2 cd2 ct2 : Value} (a2 : PySem.W.nsIn K mainGlobals "_law_number" = some (some (.ref f2))) (l2 : K.lookup f2 = some ⟨oc2, od2, .func (PySem.W.fnOf "_law_number" "_law_number" (defArgs s__law_number) (defBody s__law_number) (defScope s__law_number) .none kV2 dc2 pm2 an2 cd2 ct2), sl2⟩) (c2 : PySem.W.codeIn K cd2 "_law_number" = true) (k2 : PySem.W.keepIn K (.ref f2) = true)
    {f3 : Addr} {od3 an3 : Option Addr} {sl3 : Array (Option Value)} {oc3 kV3 dc3 pm3 cd3 ct3 : Value} (a3 : PySem.W.nsIn K mainGlobals "_law_next" = some (some (.ref f3))) (l3 : K.lookup f3 = some ⟨oc3, od3, .func (PySem.W.fnOf "_law_next" "_law_next" (defArgs s__law_next) (defBody s__law_next) (defScope s__law_next) .none kV3 dc3 pm3 an3 cd3 ct3), sl3⟩) (c3 : PySem.W.codeIn K cd3 "_law_next" = true) (k3 : PySem.W.keepIn K (.ref f3) = true)
    {f4 : Addr} {od4 an4 : Option Addr} {sl4 : Array (Option Value)} {oc4 kV4 dc4 pm4 cd4 ct4 : Value} (a4 : PySem.W.nsIn K mainGlobals "_law_common" = some (some (.ref f4))) (l4 : K.lookup f4 = some ⟨oc4, od4, .func (PySem.W.fnOf "_law_common" "_law_common" (defArgs s__law_common) (defBody s__law_common) (defScope s__law_common) .none kV4 dc4 pm4 an4 cd4 ct4), sl4⟩) (c4 : PySem.W.codeIn K cd4 "_law_common" = true) (k4 : PySem.W.keepIn K (.ref f4) = true)
    {f5 : Addr} {od5 an5 : Option Addr} {sl5 : Array (Option Value)} {oc5 kV5 dc5 pm5 cd5 ct5 : Value} (a5 : PySem.W.nsIn K mainGlobals "_law_frac" = some (some (.ref f5))) (l5 : K.lookup f5 = some ⟨oc5, od5, .func (PySem.W.fnOf "_law_frac" "_law_frac" (defArgs s__law_frac) (defBody s__law_frac) (defScope s__law_frac) .none kV5 dc5 pm5 an5 cd5 ct5), sl5⟩) (c5 : PySem.W.codeIn K cd5 "_law_frac" = true) (k5 : PySem.W.keepIn K (.ref f5) = true)
    {f6 : Addr} {od6 an6 : Option Addr} {sl6 : Array (Option Value)} {oc6 kV6 dc6 pm6 cd6 ct6 : Value} (a6 : PySem.W.nsIn K mainGlobals "common" = some (some (.ref f6))) (l6 : K.lookup f6 = some ⟨oc6, od6, .func (PySem.W.fnOf "common" "common" (defArgs s_common) (defBody s_common) (defScope s_common) .none kV6 dc6 pm6 an6 cd6 ct6), sl6⟩) (c6 : PySem.W.codeIn K cd6 "common" = true) (k6 : PySem.W.keepIn K (.ref f6) = true)
    {f7 : Addr} {od7 an7 : Option Addr} {sl7 : Array (Option Value)} {oc7 kV7 dc7 pm7 cd7 ct7 : Value} (a7 : PySem.W.nsIn K mainGlobals "whole" = some (some (.ref f7))) (l7 : K.lookup f7 = some ⟨oc7, od7, .func (PySem.W.fnOf "whole" "whole" (defArgs s_whole) (defBody s_whole) (defScope s_whole) .none kV7 dc7 pm7 an7 cd7 ct7), sl7⟩) (c7 : PySem.W.codeIn K cd7 "whole" = true) (k7 : PySem.W.keepIn K (.ref f7) = true)
    {f8 : Addr} {od8 an8 : Option Addr} {sl8 : Array (Option Value)} {oc8 kV8 dc8 pm8 cd8 ct8 : Value} (a8 : PySem.W.nsIn K mainGlobals "_law_sign" = some (some (.ref f8))) (l8 : K.lookup f8 = some ⟨oc8, od8, .func (PySem.W.fnOf "_law_sign" "_law_sign" (defArgs s__law_sign) (defBody s__law_sign) (defScope s__law_sign) .none kV8 dc8 pm8 an8 cd8 ct8), sl8⟩) (c8 : PySem.W.codeIn K cd8 "_law_sign" = true) (k8 : PySem.W.keepIn K (.ref f8) = true)
    {f9 : Addr} {od9 an9 : Option Addr} {sl9 : Array (Option Value)} {oc9 kV9 dc9 pm9 cd9 ct9 : Value} (a9 : PySem.W.nsIn K mainGlobals "law" = some (some (.ref f9))) (l9 : K.lookup f9 = some ⟨oc9, od9, .func (PySem.W.fnOf "law" "law" (defArgs s_law) (defBody s_law) (defScope s_law) .none kV9 dc9 pm9 an9 cd9 ct9), sl9⟩) (c9 : PySem.W.codeIn K cd9 "law" = true) (k9 : PySem.W.keepIn K (.ref f9) = true)
    (z_abs : PySem.W.nsIn K mainGlobals "abs" = some none)
    (z_int : PySem.W.nsIn K mainGlobals "int" = some none)
    (z_isinstance : PySem.W.nsIn K mainGlobals "isinstance" = some none)
    (z_len : PySem.W.nsIn K mainGlobals "len" = some none)
    (z_max : PySem.W.nsIn K mainGlobals "max" = some none)
    (z_range : PySem.W.nsIn K mainGlobals "range" = some none)
    (z_tuple : PySem.W.nsIn K mainGlobals "tuple" = some none) :
    ∃ fd : FuncData, (∀ (s : Shared) (v : Value), BindsTo s fd ⟨[v], []⟩ [("_law_script", v)]) ∧ ∀ base : Heap, K.In base → base.Ns mainGlobals mg → FnOk l.prog w K mg base CX0 4 fa fd ["_law_script"] (spF K g_law) := by
  have e := hfa.symm.trans (PySem.W.mg_of X G a9)
  cases e
  have D0 := fun_mk (st := s__law_cell_at) l0 c0 k0
  have m0 := PySem.W.mg_of X G a0
  have b0 := D0.binds (ps := ["_law_script", "_law_k"]) fun _ _ _ _ _ _ us hl => match us, hl with | [_, _], _ => rfl
  have D1 := fun_mk (st := s__law_draw) l1 c1 k1
  have m1 := PySem.W.mg_of X G a1
  have b1 := D1.binds (ps := ["_law_cell", "_law_k", "_law_bound"]) fun _ _ _ _ _ _ us hl => match us, hl with | [_, _, _], _ => rfl
  have D2 := fun_mk (st := s__law_number) l2 c2 k2
  have m2 := PySem.W.mg_of X G a2
  have b2 := D2.binds (ps := ["_law_cell", "_law_k", "_law_bound"]) fun _ _ _ _ _ _ us hl => match us, hl with | [_, _, _], _ => rfl
  have D3 := fun_mk (st := s__law_next) l3 c3 k3
  have m3 := PySem.W.mg_of X G a3
  have b3 := D3.binds (ps := ["_law_draw_here", "_law_bound"]) fun _ _ _ _ _ _ us hl => match us, hl with | [_, _], _ => rfl
  have D4 := fun_mk (st := s__law_common) l4 c4 k4
  have m4 := PySem.W.mg_of X G a4
  have b4 := D4.binds (ps := ["_law_a", "_law_b"]) fun _ _ _ _ _ _ us hl => match us, hl with | [_, _], _ => rfl
  have D5 := fun_mk (st := s__law_frac) l5 c5 k5
  have m5 := PySem.W.mg_of X G a5
  have b5 := D5.binds (ps := ["_law_n", "_law_d"]) fun _ _ _ _ _ _ us hl => match us, hl with | [_, _], _ => rfl
  have D6 := fun_mk (st := s_common) l6 c6 k6
  have m6 := PySem.W.mg_of X G a6
  have b6 := D6.binds (ps := ["a", "b"]) fun _ _ _ _ _ _ us hl => match us, hl with | [_, _], _ => rfl
  have D7 := fun_mk (st := s_whole) l7 c7 k7
  have m7 := PySem.W.mg_of X G a7
  have b7 := D7.binds (ps := ["poly"]) fun _ _ _ _ _ _ us hl => match us, hl with | [_], _ => rfl
  have D8 := fun_mk (st := s__law_sign) l8 c8 k8
  have m8 := PySem.W.mg_of X G a8
  have b8 := D8.binds (ps := ["_law_number_here"]) fun _ _ _ _ _ _ us hl => match us, hl with | [_], _ => rfl
  have D9 := fun_mk (st := s_law) l9 c9 k9
  have m9 := PySem.W.mg_of X G a9
  have mm_abs : mg "abs" = none := PySem.W.mg_none_of X G z_abs
  have mm_int : mg "int" = none := PySem.W.mg_none_of X G z_int
  have mm_isinstance : mg "isinstance" = none := PySem.W.mg_none_of X G z_isinstance
  have mm_len : mg "len" = none := PySem.W.mg_none_of X G z_len
  have mm_max : mg "max" = none := PySem.W.mg_none_of X G z_max
  have mm_range : mg "range" = none := PySem.W.mg_none_of X G z_range
  have mm_tuple : mg "tuple" = none := PySem.W.mg_none_of X G z_tuple
  refine ⟨PySem.W.fnOf "law" "law" (defArgs s_law) (defBody s_law) (defScope s_law) .none kV9 dc9 pm9 an9 cd9 ct9, fun s v => .of_eq rfl, fun base _ _ => ?_⟩
  have G0 := ok__law_cell_at (P := l.prog) (w := w) (base := base) (mg := mg) D0 mm_len
  have G1 := ok__law_draw (P := l.prog) (w := w) (base := base) (mg := mg) D1 mm_int
  have G2 := ok__law_number (P := l.prog) (w := w) (base := base) (mg := mg) D2 G1 m1 k1 b1 mm_int mm_range
  have G3 := ok__law_next (P := l.prog) (w := w) (base := base) (mg := mg) D3 G0 m0 k0 b0 G2 m2 k2 b2 mm_int
  have G4 := ok__law_common (P := l.prog) (w := w) (base := base) (mg := mg) D4 mm_abs mm_range
  have G5 := ok__law_frac (P := l.prog) (w := w) (base := base) (mg := mg) D5 G4 m4 k4 b4
  have G6 := ok_common (P := l.prog) (w := w) (base := base) (mg := mg) D6 mm_abs
  have G7 := ok_whole (P := l.prog) (w := w) (base := base) (mg := mg) D7 G6 m6 k6 b6 mm_max mm_tuple
  have G8 := ok__law_sign (P := l.prog) (w := w) (base := base) (mg := mg) D8 
  exact ok_law D9 G3 m3 k3 b3 G5 m5 k5 b5 G7 m7 k7 b7 G4 m4 k4 b4 G8 m8 k8 b8 mm_isinstance mm_len mm_range mm_tuple
end LW

open PySem PySem.W PyProof.Rows
set_option maxHeartbeats 0 in
theorem PySem.Challenge.cw_justthepart_k01_whole_polynomials_holds : PySem.Challenge.rw_justthepart_k01_whole_polynomials.Holds := by
  w_on; o_law; k_head; (case hw => w_witness2)
  k_fill
  refine L2.walk_of (l := PySem.Challenge.rw_justthepart_k01_whole_polynomials) (n := 63) (k := 4) (x := "_law_script") (CX := fun _ => L2.CX0) (sp := fun w => DL.spF _ LW.g_law) rfl (by decide) rfl ⟨rfl, by decide, by decide⟩ (fun w h Y => PySem.W.kIn_of Y) ?F (fun _ _ a ns hl _ hS => DL.law_end hS (LW.law_true ns hl)) (fun _ _ _ _ _ h => h)
  case F =>
    intro w mg fa h KX G hmg
    refine' LW.all_mk KX G hmg ?a0 ?l0 ?c0 ?k0 ?a1 ?l1 ?c1 ?k1 ?a2 ?l2 ?c2 ?k2 ?a3 ?l3 ?c3 ?k3 ?a4 ?l4 ?c4 ?k4 ?a5 ?l5 ?c5 ?k5 ?a6 ?l6 ?c6 ?k6 ?a7 ?l7 ?c7 ?k7 ?a8 ?l8 ?c8 ?k8 ?a9 ?l9 ?c9 ?k9 ?z_abs ?z_int ?z_isinstance ?z_len ?z_max ?z_range ?z_tuple
    (case a0 => k_is); (case l0 => k_is); (case c0 => k_is); (case k0 => k_is); (case a1 => k_is); (case l1 => k_is); (case c1 => k_is); (case k1 => k_is); (case a2 => k_is); (case l2 => k_is); (case c2 => k_is); (case k2 => k_is); (case a3 => k_is); (case l3 => k_is); (case c3 => k_is); (case k3 => k_is); (case a4 => k_is); (case l4 => k_is); (case c4 => k_is); (case k4 => k_is); (case a5 => k_is); (case l5 => k_is); (case c5 => k_is); (case k5 => k_is); (case a6 => k_is); (case l6 => k_is); (case c6 => k_is); (case k6 => k_is); (case a7 => k_is); (case l7 => k_is); (case c7 => k_is); (case k7 => k_is); (case a8 => k_is); (case l8 => k_is); (case c8 => k_is); (case k8 => k_is); (case a9 => k_is); (case l9 => k_is); (case c9 => k_is); (case k9 => k_is); (case z_abs => k_is); (case z_int => k_is); (case z_isinstance => k_is); (case z_len => k_is); (case z_max => k_is); (case z_range => k_is); (case z_tuple => k_is)

