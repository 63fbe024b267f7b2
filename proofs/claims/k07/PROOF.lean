import PyProof.Rows.All
import HandS.ForMost
import HandS.Wide
import HandS.TupAny
import HandS.Zip
import HandS.Style
import HandS.ForExc
import HandS.Deep
import HandS.IsInst
import HandS.Star
import HandS.Comp
import HandS.ExcOwn
import HandS.TryMany
import HandS.ExcInit
import KE.GoesEnum
import KE.SortData
import KE.DataCmp
import HandS.TupMul
import HandS.RaiseMore
import PyProof.StrOps2
import PyProof.StrLawsChain
import PyProof.StrLawsTight
import PyProof.Rows.StrItems
import PyProof.Rows.ReprOcc
import PySem.Challenge.RW_justthepart_k07_wrong_texts
set_option Elab.async false
set_option linter.all false
set_option maxRecDepth 1000000
set_option maxHeartbeats 4000000
/-! DL: what a def computes, as a plain function of plain data; its derivation over the hand layer. -/
namespace DL
open PySem PySem.Spec PyProof.Rows L2

/-! ### data, cells, locals -/
abbrev Dat := PyData
/-- a reference to the n-th cell (a list that several defs share and change) -/
abbrev cel (n : Nat) : Dat := .dict [(.int n, .none)]
/-- the script: a list that is read alone -/
abbrev seal_ (ns : List Int) : Dat := .dict [(.none, .list (ns.map PyData.int))]
/-- the program's classes by number: where each stands, its fields as they lie in the own dict; exceptions', others' -/
structure Xc where
  ex : Nat → Option (Addr × List Str) := fun _ => none
  ob : Nat → Option (Addr × List Str) := fun _ => none
/-- what may change: a list, a dict with keys that are ints or texts, or tuples of these, an instance -/
inductive Cel where
  | ls (ds : List Dat)
  | dk (kvs : List (Key × Dat))
  | dt (kvs : List (List Key × Dat))
  | ob (id : Nat) (ds : List Dat)
abbrev Sto := List Cel
/-- a local: unassigned, plain data, an object of its own that it may change -/
inductive Slt where
  | un | fz (d : Dat) | ow (c : Cel)
abbrev Lcs := List Slt
/-- ex: an exception, .tuple (.str class :: what its fields hold) -/
inductive Res (α : Type) where
  | bad | ok (a : α) (s : Sto) | ex (x : Dat) (s : Sto)
inductive Flo where
  | bad | nx (e : Lcs) (s : Sto) | rt (d : Dat) (s : Sto) | bk (e : Lcs) (s : Sto) | ct (e : Lcs) (s : Sto) | ex (x : Dat) (e : Lcs) (s : Sto)

/-! ### how data lie in the heap -/
mutual
def Rp (K : PySem.W.Frag) (as : List Addr) (F : Hp) : Dat → V → Prop
  | .none, v => v = .non
  | .bool b, v => v = .bl b
  | .int i, v => v = .int i
  | .str x, v => v = .str x
  | .list ds, v => ∃ a xs, v = .ref a ∧ F a = some (.lst xs) ∧ RpL K as F ds xs
  | .tuple ds, v => ∃ a xs, v = .ref a ∧ SqT K F a xs ∧ RpL K as F ds xs
  | .dict kvs, v => match kvs with
    | [(.int n, .none)] => ∃ a, v = .ref a ∧ as[n.toNat]? = some a
    | [(.none, .list ds)] => ∃ (a : Addr) (ns : List Int), v = .ref a ∧ ds = ns.map PyData.int ∧ SqL K F a (ns.map V.int)
    | _ => False
def RpL (K : PySem.W.Frag) (as : List Addr) (F : Hp) : List Dat → List V → Prop
  | [], [] => True
  | d :: ds, v :: vs => Rp K as F d v ∧ RpL K as F ds vs
  | [], _ :: _ => False
  | _ :: _, [] => False
end

/-- the object ho holds what c says -/
def CR (xc : Xc) (K : PySem.W.Frag) (as : List Addr) (F : Hp) : Cel → HO → Prop
  | .ls ds, ho => ∃ vs, ho = .lst vs ∧ RpL K as F ds vs
  | .dk kvs, ho => ∃ vs, ho = .dK ((kvs.map Prod.fst).zip vs) ∧ RpL K as F (kvs.map Prod.snd) vs
  | .dt kvs, ho => ∃ vs, ho = .dT ((kvs.map Prod.fst).zip vs) ∧ RpL K as F (kvs.map Prod.snd) vs
  | .ob id ds, ho => ∃ C fns dx vs, xc.ob id = some (C, fns) ∧ ho = .ins C dx (fns.zip vs) ∧ ds.length ≤ fns.length ∧ RpL K as F ds vs
theorem cr_ls {xc : Xc} {K : PySem.W.Frag} {as : List Addr} {F : Hp} {ds : List Dat} {vs : List V} (h : RpL K as F ds vs) : CR xc K as F (.ls ds) (.lst vs) := ⟨vs, rfl, h⟩
theorem sqL_mono {K : PySem.W.Frag} {F F' : Hp} {a : Addr} {xs : List V} (h : Same F F') (q : SqL K F a xs) : SqL K F' a xs := h.seq q
theorem sqT_mono {K : PySem.W.Frag} {F F' : Hp} {a : Addr} {xs : List V} (e : Same F F') (h : SqT K F a xs) : SqT K F' a xs := by
  rcases h with (h | ⟨o, h⟩) | h
  · exact .inl (.inl (e _ _ h))
  · exact .inl (.inr ⟨o, e _ _ h⟩)
  · exact .inr h
/-- one list begins with the other -/
def Beg (as as' : List Addr) : Prop := ∃ more, as' = as ++ more
theorem Beg.refl (as : List Addr) : Beg as as := ⟨[], by simp⟩
theorem Beg.trans {a b c : List Addr} (h : Beg a b) (h' : Beg b c) : Beg a c := by
  obtain ⟨x, rfl⟩ := h
  obtain ⟨y, rfl⟩ := h'
  exact ⟨x ++ y, by simp⟩
theorem Beg.get {as as' : List Addr} (h : Beg as as') {n : Nat} {a : Addr} (e : as[n]? = some a) : as'[n]? = some a := by
  obtain ⟨x, rfl⟩ := h
  rw [List.getElem?_append_left (List.getElem?_eq_some_iff.mp e).1]
  exact e
theorem Beg.mem {as as' : List Addr} (h : Beg as as') {a : Addr} (e : a ∈ as) : a ∈ as' := by
  obtain ⟨x, rfl⟩ := h
  exact List.mem_append_left _ e
mutual
theorem Rp.mono {K : PySem.W.Frag} {as as' : List Addr} {F F' : Hp} (hb : Beg as as') (hs : Same F F') : ∀ (d : Dat) (v : V), Rp K as F d v → Rp K as' F' d v
  | .none, v, h => by simpa [Rp] using h
  | .bool b, v, h => by simpa [Rp] using h
  | .int i, v, h => by simpa [Rp] using h
  | .str x, v, h => by simpa [Rp] using h
  | .list ds, v, h => by
    simp only [Rp] at h ⊢
    obtain ⟨a, xs, e, q, r⟩ := h
    exact ⟨a, xs, e, hs _ _ q, RpL.mono hb hs ds xs r⟩
  | .tuple ds, v, h => by
    simp only [Rp] at h ⊢
    obtain ⟨a, xs, e, q, r⟩ := h
    exact ⟨a, xs, e, sqT_mono hs q, RpL.mono hb hs ds xs r⟩
  | .dict kvs, v, h => by
    unfold Rp at h ⊢
    split at h
    · obtain ⟨a, e, q⟩ := h
      exact ⟨a, e, hb.get q⟩
    · obtain ⟨a, ns, e, e2, q⟩ := h
      exact ⟨a, ns, e, e2, sqL_mono hs q⟩
    · exact h.elim
theorem RpL.mono {K : PySem.W.Frag} {as as' : List Addr} {F F' : Hp} (hb : Beg as as') (hs : Same F F') : ∀ (ds : List Dat) (vs : List V), RpL K as F ds vs → RpL K as' F' ds vs
  | [], [], h => by simp [RpL]
  | d :: ds, v :: vs, h => by
    simp only [RpL] at h ⊢
    exact ⟨Rp.mono hb hs d v h.1, RpL.mono hb hs ds vs h.2⟩
  | [], _ :: _, h => by simp [RpL] at h
  | _ :: _, [], h => by simp [RpL] at h
end
section
variable {K : PySem.W.Frag} {as : List Addr} {F : Hp}
theorem RpL.length : ∀ {ds : List Dat} {vs : List V}, RpL K as F ds vs → vs.length = ds.length
  | [], [], _ => rfl
  | d :: ds, v :: vs, h => by
    simp only [RpL] at h
    simp [RpL.length h.2]
  | [], _ :: _, h => by simp [RpL] at h
  | _ :: _, [], h => by simp [RpL] at h
theorem RpL.get : ∀ {ds : List Dat} {vs : List V} {i : Nat} {v : V}, RpL K as F ds vs → vs[i]? = some v → ∃ d, ds[i]? = some d ∧ Rp K as F d v
  | [], [], i, v, _, e => by simp at e
  | d :: ds, v :: vs, 0, u, h, e => by
    simp only [RpL] at h
    simp at e; subst e
    exact ⟨d, rfl, h.1⟩
  | d :: ds, v :: vs, i + 1, u, h, e => by
    simp only [RpL] at h
    obtain ⟨x, hx, r⟩ := RpL.get (i := i) h.2 (by simpa using e)
    exact ⟨x, by simpa using hx, r⟩
  | [], _ :: _, _, _, h, _ => by simp [RpL] at h
  | _ :: _, [], _, _, h, _ => by simp [RpL] at h
theorem RpL.get' {ds : List Dat} {vs : List V} {i : Nat} {d : Dat} (h : RpL K as F ds vs) (e : ds[i]? = some d) : ∃ v, vs[i]? = some v ∧ Rp K as F d v := by
  have hl := h.length
  have hi : i < vs.length := by rw [hl]; exact (List.getElem?_eq_some_iff.mp e).1
  obtain ⟨x, hx, r⟩ := h.get (List.getElem?_eq_getElem hi)
  rw [e] at hx; cases hx
  exact ⟨_, List.getElem?_eq_getElem hi, r⟩
theorem RpL.append : ∀ {ds es : List Dat} {vs ws : List V}, RpL K as F ds vs → RpL K as F es ws → RpL K as F (ds ++ es) (vs ++ ws)
  | [], _, [], _, _, h => h
  | d :: ds, es, v :: vs, ws, h, h' => by
    simp only [RpL, List.cons_append] at h ⊢
    exact ⟨h.1, RpL.append h.2 h'⟩
  | [], _, _ :: _, _, h, _ => by simp [RpL] at h
  | _ :: _, _, [], _, h, _ => by simp [RpL] at h
theorem RpL.one {d : Dat} {v : V} (h : Rp K as F d v) : RpL K as F [d] [v] := by simp only [RpL]; exact ⟨h, trivial⟩
theorem RpL.nil : RpL K as F [] [] := by simp [RpL]
theorem RpL.cons {d : Dat} {v : V} {ds : List Dat} {vs : List V} (h : Rp K as F d v) (t : RpL K as F ds vs) : RpL K as F (d :: ds) (v :: vs) := by simp only [RpL]; exact ⟨h, t⟩
theorem RpL.take : ∀ {ds : List Dat} {vs : List V} (n : Nat), RpL K as F ds vs → RpL K as F (ds.take n) (vs.take n)
  | _, _, 0, _ => by simp [RpL]
  | [], [], n + 1, _ => by simp [RpL]
  | d :: ds, v :: vs, n + 1, h => by
    simp only [RpL, List.take_succ_cons] at h ⊢
    exact ⟨h.1, RpL.take n h.2⟩
  | [], _ :: _, _, h => by simp [RpL] at h
  | _ :: _, [], _, h => by simp [RpL] at h
theorem RpL.drop : ∀ {ds : List Dat} {vs : List V} (n : Nat), RpL K as F ds vs → RpL K as F (ds.drop n) (vs.drop n)
  | _, _, 0, h => h
  | [], [], n + 1, _ => by simp [RpL]
  | d :: ds, v :: vs, n + 1, h => by
    simp only [RpL, List.drop_succ_cons] at h ⊢
    exact RpL.drop n h.2
  | [], _ :: _, _, h => by simp [RpL] at h
  | _ :: _, [], _, h => by simp [RpL] at h
theorem RpL.set : ∀ {ds : List Dat} {vs : List V} (i : Nat) {d : Dat} {v : V}, RpL K as F ds vs → Rp K as F d v → RpL K as F (ds.set i d) (vs.set i v)
  | [], [], _, _, _, _, _ => by simp [RpL]
  | d :: ds, v :: vs, 0, _, _, h, r => by
    simp only [RpL, List.set_cons_zero] at h ⊢
    exact ⟨r, h.2⟩
  | d :: ds, v :: vs, i + 1, _, _, h, r => by
    simp only [RpL, List.set_cons_succ] at h ⊢
    exact ⟨h.1, RpL.set i h.2 r⟩
  | [], _ :: _, _, _, _, h, _ => by simp [RpL] at h
  | _ :: _, [], _, _, _, h, _ => by simp [RpL] at h
end

theorem CR.mono {xc : Xc} {K : PySem.W.Frag} {as as' : List Addr} {F F' : Hp} (hb : Beg as as') (hs : Same F F') {c : Cel} {ho : HO} (h : CR xc K as F c ho) : CR xc K as' F' c ho := by
  cases c with
  | ls ds =>
    obtain ⟨vs, e, r⟩ := h
    exact ⟨vs, e, RpL.mono hb hs _ _ r⟩
  | dk kvs =>
    obtain ⟨vs, e, r⟩ := h
    exact ⟨vs, e, RpL.mono hb hs _ _ r⟩
  | dt kvs =>
    obtain ⟨vs, e, r⟩ := h
    exact ⟨vs, e, RpL.mono hb hs _ _ r⟩
  | ob id ds =>
    obtain ⟨C, fns, dx, vs, e1, e2, e3, r⟩ := h
    exact ⟨C, fns, dx, vs, e1, e2, e3, RpL.mono hb hs _ _ r⟩
/-! ### the world: the cells' places, the places that are someone's own -/
structure Wd where
  as : List Addr
  ow : Addr → Prop
open Classical in
/-- what stands still -/
noncomputable def Fz (w : Wd) (H : Hp) : Hp := fun a => if a ∈ w.as ∨ w.ow a then none else H a
theorem Fz_get {w : Wd} {H : Hp} {a : Addr} {o : HO} (h : Fz w H a = some o) : H a = some o ∧ a ∉ w.as ∧ ¬ w.ow a := by
  unfold Fz at h
  split at h
  · cases h
  · rename_i n
    exact ⟨h, fun q => n (.inl q), fun q => n (.inr q)⟩
theorem Fz_of {w : Wd} {H : Hp} {a : Addr} {o : HO} (h : H a = some o) (h1 : a ∉ w.as) (h2 : ¬ w.ow a) : Fz w H a = some o := by
  unfold Fz
  rw [if_neg (by rintro (q | q); exact h1 q; exact h2 q)]
  exact h
theorem Fz_sub {w : Wd} {H : Hp} : Same (Fz w H) H := fun a o h => (Fz_get h).1
structure Gx where
  K : PySem.W.Frag
  H0 : Hp
  as0 : List Addr
  O0 : Addr → Prop
  xc : Xc := {}
  W : Value → Option Addr → L2.St → Hp → Prop := fun _ _ _ _ => False
/-- the exception x, of class cls, with the own dict d -/
def ExR (K : PySem.W.Frag) (xc : Xc) (as : List Addr) (F : Hp) (x : Dat) (cls : Value) (d : Option Addr) : Prop :=
  ∃ (id : Nat) (fds : List Dat) (C : Addr) (fns : List Str) (dd : Addr) (vs : List V), x = .tuple (.int id :: fds) ∧ xc.ex id = some (C, fns) ∧ cls = .ref C ∧ d = some dd ∧ F dd = some (.xd (fns.zip vs)) ∧ fns.length = vs.length ∧ RpL K as F fds vs

structure IE (G : Gx) (w : Wd) (e : Lcs) (s : Sto) (σ : L2.St) (H : Hp) : Prop where
  len : e.length = σ.length
  slot : ∀ (i : Nat) d, e[i]? = some (.fz d) → ∃ v, σ[i]? = some (some v) ∧ Rp G.K w.as (Fz w H) d v
  own : ∀ (i : Nat) c, e[i]? = some (.ow c) → ∃ p ho, σ[i]? = some (some (.ref p)) ∧ w.ow p ∧ G.H0 p = none ∧ ¬ G.O0 p ∧ H p = some ho ∧ CR G.xc G.K w.as (Fz w H) c ho
  inj : ∀ (i j : Nat) p ds es, e[i]? = some (.ow ds) → e[j]? = some (.ow es) → σ[i]? = some (some (.ref p)) → σ[j]? = some (some (.ref p)) → i = j
  slen : w.as.length = s.length
  cells : ∀ (n : Nat) c, s[n]? = some c → ∃ a ho, w.as[n]? = some a ∧ H a = some ho ∧ CR G.xc G.K w.as (Fz w H) c ho
  nd : w.as.Nodup
  dis : ∀ a ∈ w.as, ¬ w.ow a
  beg : Beg G.as0 w.as
  o0 : ∀ a, G.O0 a → w.ow a
  there : ∀ a, w.ow a → H a ≠ none
  keep : ∀ a o, G.H0 a = some o → a ∉ G.as0 → H a = some o
  cfresh : ∀ a, a ∈ w.as → a ∉ G.as0 → G.H0 a = none

/-- what an expression leaves as it was -/
structure EExt (w : Wd) (H : Hp) (w' : Wd) (H' : Hp) : Prop where
  beg : Beg w.as w'.as
  same : Same (Fz w H) (Fz w' H')
  ow : w'.ow = w.ow
  own : ∀ a, w.ow a → H' a = H a
/-- what a statement leaves as it was -/
structure FExt (w : Wd) (H : Hp) (w' : Wd) (H' : Hp) : Prop where
  beg : Beg w.as w'.as
  same : Same (Fz w H) (Fz w' H')
section
variable {w w1 w2 : Wd} {H H1 H2 : Hp}
theorem EExt.refl : EExt w H w H := ⟨.refl _, .refl _, rfl, fun _ _ => rfl⟩
theorem EExt.trans (a : EExt w H w1 H1) (b : EExt w1 H1 w2 H2) : EExt w H w2 H2 :=
  ⟨a.beg.trans b.beg, a.same.trans b.same, b.ow.trans a.ow, fun x hx => (b.own x (by rw [a.ow]; exact hx)).trans (a.own x hx)⟩
theorem EExt.f (a : EExt w H w1 H1) : FExt w H w1 H1 := ⟨a.beg, a.same⟩
theorem FExt.refl : FExt w H w H := ⟨.refl _, .refl _⟩
theorem FExt.trans (a : FExt w H w1 H1) (b : FExt w1 H1 w2 H2) : FExt w H w2 H2 := ⟨a.beg.trans b.beg, a.same.trans b.same⟩
theorem FExt.rp {K : PySem.W.Frag} (x : FExt w H w1 H1) {d : Dat} {v : V} (h : Rp K w.as (Fz w H) d v) : Rp K w1.as (Fz w1 H1) d v := Rp.mono x.beg x.same d v h
theorem FExt.rpl {K : PySem.W.Frag} (x : FExt w H w1 H1) {d : List Dat} {v : List V} (h : RpL K w.as (Fz w H) d v) : RpL K w1.as (Fz w1 H1) d v := RpL.mono x.beg x.same d v h
theorem EExt.rp {K : PySem.W.Frag} (x : EExt w H w1 H1) {d : Dat} {v : V} (h : Rp K w.as (Fz w H) d v) : Rp K w1.as (Fz w1 H1) d v := x.f.rp h
theorem EExt.rpl {K : PySem.W.Frag} (x : EExt w H w1 H1) {d : List Dat} {v : List V} (h : RpL K w.as (Fz w H) d v) : RpL K w1.as (Fz w1 H1) d v := x.f.rpl h
end
section
variable {G : Gx} {w : Wd} {e : Lcs} {s : Sto} {σ : L2.St} {H : Hp}
theorem IE.cellThere (I : IE G w e s σ H) {a : Addr} (ha : a ∈ w.as) : H a ≠ none := by
  obtain ⟨n, hn, e1⟩ := List.getElem_of_mem ha
  have hs : n < s.length := by rw [← I.slen]; exact hn
  obtain ⟨b, vs, h1, h2, _⟩ := I.cells n _ (List.getElem?_eq_getElem hs)
  rw [List.getElem?_eq_getElem hn, e1] at h1
  cases h1
  rw [h2]; simp
theorem IE.ownL (I : IE G w e s σ H) {i : Nat} {ds : List Dat} (h : e[i]? = some (.ow (.ls ds))) : ∃ p vs, σ[i]? = some (some (.ref p)) ∧ w.ow p ∧ G.H0 p = none ∧ ¬ G.O0 p ∧ H p = some (.lst vs) ∧ RpL G.K w.as (Fz w H) ds vs := by
  obtain ⟨p, ho, h1, h2, h3, h4, h5, vs, rfl, h6⟩ := I.own i _ h
  exact ⟨p, vs, h1, h2, h3, h4, h5, h6⟩
theorem IE.cellL (I : IE G w e s σ H) {n : Nat} {ds : List Dat} (h : s[n]? = some (.ls ds)) : ∃ a vs, w.as[n]? = some a ∧ H a = some (.lst vs) ∧ RpL G.K w.as (Fz w H) ds vs := by
  obtain ⟨a, ho, h1, h2, vs, rfl, h3⟩ := I.cells n _ h
  exact ⟨a, vs, h1, h2, h3⟩
/-- a new object -/
theorem IE.newF (I : IE G w e s σ H) {p : Addr} {o : HO} (hp : H p = none) : Fz w (upd H p o) p = some o :=
  Fz_of upd_same (fun q => I.cellThere q hp) (fun q => I.there p q hp)
theorem IE.sameF (I : IE G w e s σ H) {p : Addr} {o : HO} (hp : H p = none) : Same (Fz w H) (Fz w (upd H p o)) := fun a u h => by
  obtain ⟨h1, h2, h3⟩ := Fz_get h
  exact Fz_of (by rw [upd_ne (ne_of_none h1 hp)]; exact h1) h2 h3
theorem IE.new (I : IE G w e s σ H) {p : Addr} {o : HO} (hp : H p = none) : IE G w e s σ (upd H p o) := by
  have sm := I.sameF (o := o) hp
  have hx : ∀ {a : Addr} {u : HO}, H a = some u → upd H p o a = some u := fun {a u} h => by rw [upd_ne (ne_of_none h hp)]; exact h
  refine ⟨I.len, fun i d h => ?_, fun i ds h => ?_, I.inj, I.slen, fun n ds h => ?_, I.nd, I.dis, I.beg, I.o0, fun a h => ?_, fun a u h h' => hx (I.keep a u h h'), I.cfresh⟩
  · obtain ⟨v, h1, h2⟩ := I.slot i d h
    exact ⟨v, h1, Rp.mono (.refl _) sm _ _ h2⟩
  · obtain ⟨q, vs, h1, h2, h3, h4, h5, h6⟩ := I.own i ds h
    exact ⟨q, vs, h1, h2, h3, h4, hx h5, CR.mono (.refl _) sm h6⟩
  · obtain ⟨a, vs, h1, h2, h3⟩ := I.cells n ds h
    exact ⟨a, vs, h1, hx h2, CR.mono (.refl _) sm h3⟩
  · have q := I.there a h
    cases z : H a with
    | none => exact absurd z q
    | some u => rw [hx z]; simp
theorem IE.newE (I : IE G w e s σ H) {p : Addr} {o : HO} (hp : H p = none) : EExt w H w (upd H p o) :=
  ⟨.refl _, I.sameF hp, rfl, fun a ha => upd_ne fun z => by subst z; exact I.there a ha hp⟩
end
end DL

namespace DL
open PySem PySem.Spec PyProof.Rows L2

/-! ### the functions that stand for pieces of a def -/
abbrev FE := Lcs → Sto → Res Dat
abbrev FT := Lcs → Sto → Res Bool
abbrev FA := Lcs → Sto → Res (List Dat)
abbrev FS := Lcs → Sto → Flo
abbrev FG := Dat → Lcs → Sto → Res Lcs

def Res.holds {α : Type} (r : Res α) (P : α → Sto → Prop) (R : Dat → Sto → Prop) : Prop := match r with
  | .bad => False
  | .ok a s => P a s
  | .ex x s => R x s
/-- an exception is not waited for -/
def Res.noex {α : Type} (r : Res α) : Res α := match r with
  | .ex _ _ => .bad
  | r => r
@[simp] theorem noex_ok {α : Type} (a : α) (s : Sto) : (Res.ok a s).noex = .ok a s := rfl
@[simp] theorem noex_bad {α : Type} : (Res.bad : Res α).noex = .bad := rfl
@[simp] theorem noex_ex {α : Type} (x : Dat) (s : Sto) : (Res.ex x s : Res α).noex = .bad := rfl
theorem holds_noex {α : Type} {r : Res α} {P : α → Sto → Prop} {R : Dat → Sto → Prop} (h : r.noex.holds P R) (R' : Dat → Sto → Prop) : r.holds P R' := by
  cases r with
  | bad => exact h
  | ok a s => exact h
  | ex x s => exact h.elim
def Res.bind {α β : Type} (r : Res α) (f : α → Sto → Res β) : Res β := match r with
  | .bad => .bad
  | .ok a s => f a s
  | .ex x s => .ex x s
@[simp] theorem bind_ex {α β : Type} (x : Dat) (s : Sto) (f : α → Sto → Res β) : (Res.ex x s : Res α).bind f = .ex x s := rfl
@[simp] theorem bind_ok {α β : Type} (a : α) (s : Sto) (f : α → Sto → Res β) : (Res.ok a s).bind f = f a s := rfl
@[simp] theorem bind_bad {α β : Type} (f : α → Sto → Res β) : (Res.bad : Res α).bind f = .bad := rfl
theorem holds_bind {α β : Type} {r : Res α} {f : α → Sto → Res β} {P : β → Sto → Prop} {R : Dat → Sto → Prop} (h : (r.bind f).holds P R) : r.holds (fun a s => (f a s).holds P R) R := by
  cases r with
  | bad => exact h
  | ok a s => exact h
  | ex x s => exact h

/-- wanted behind an expression -/
def kE (G : Gx) (w : Wd) (e : Lcs) (σ : L2.St) (H : Hp) (Q : VK) : Dat → Sto → Prop := fun d s' => ∀ w' v H', IE G w' e s' σ H' → EExt w H w' H' → Rp G.K w'.as (Fz w' H') d v → Q v H'
def kT (G : Gx) (w : Wd) (e : Lcs) (σ : L2.St) (H : Hp) (Q : Bool → Hp → Prop) : Bool → Sto → Prop := fun b s' => ∀ w' H', IE G w' e s' σ H' → EExt w H w' H' → Q b H'
def kA (G : Gx) (w : Wd) (e : Lcs) (σ : L2.St) (H : Hp) (Q : List V → Hp → Prop) : List Dat → Sto → Prop := fun ds s' => ∀ w' vs H', IE G w' e s' σ H' → EExt w H w' H' → RpL G.K w'.as (Fz w' H') ds vs → Q vs H'
/-- wanted of an exception -/
def kX (G : Gx) (w : Wd) (e : Lcs) (σ : L2.St) (H : Hp) : Dat → Sto → Prop := fun x s' => ∀ w' H' cls d, IE G w' e s' σ H' → EExt w H w' H' → ExR G.K G.xc w'.as (Fz w' H') x cls d → G.W cls d σ H'
theorem kX_ext {G : Gx} {w w1 : Wd} {e : Lcs} {σ : L2.St} {H H1 : Hp} {d : Dat} {s : Sto} (x : EExt w H w1 H1) (h : kX G w e σ H d s) : kX G w1 e σ H1 d s :=
  fun w' H' cls d I x' r => h w' H' cls d I (x.trans x') r
theorem holds_imp {α : Type} {r : Res α} {P P' : α → Sto → Prop} {R R' : Dat → Sto → Prop} (h : r.holds P R) (k : ∀ a s, P a s → P' a s) (kR : ∀ x s, R x s → R' x s := by
  first
  | exact fun _ _ h => h
  | exact fun _ _ h => kX_ext (by assumption) h
  | exact fun _ _ h => kX_ext (EExt.trans (by assumption) (by assumption)) h
  | exact fun _ _ h => kX_ext (EExt.trans (by assumption) (EExt.trans (by assumption) (by assumption))) h
  | exact fun _ _ h => kX_ext (EExt.trans (by assumption) (EExt.trans (by assumption) (EExt.trans (by assumption) (by assumption)))) h) : r.holds P' R' := by
  cases r with
  | bad => exact h
  | ok a s => exact k _ _ h
  | ex x s => exact kR _ _ h
def tE (G : Gx) (F : FE) : TE := fun σ H Q => ∃ w e s, IE G w e s σ H ∧ (F e s).holds (kE G w e σ H Q) (kX G w e σ H)
def tT (G : Gx) (F : FT) : TT := fun σ H Q => ∃ w e s, IE G w e s σ H ∧ (F e s).holds (kT G w e σ H Q) (kX G w e σ H)
def tA (G : Gx) (F : FA) : TA := fun σ H Q => ∃ w e s, IE G w e s σ H ∧ (F e s).holds (kA G w e σ H Q) (kX G w e σ H)
theorem kE_ext {G : Gx} {w w1 : Wd} {e : Lcs} {σ : L2.St} {H H1 : Hp} {Q : VK} {d : Dat} {s : Sto} (x : EExt w H w1 H1) (h : kE G w e σ H Q d s) : kE G w1 e σ H1 Q d s :=
  fun w' v H' I x' r => h w' v H' I (x.trans x') r
theorem kT_ext {G : Gx} {w w1 : Wd} {e : Lcs} {σ : L2.St} {H H1 : Hp} {Q : Bool → Hp → Prop} {d : Bool} {s : Sto} (x : EExt w H w1 H1) (h : kT G w e σ H Q d s) : kT G w1 e σ H1 Q d s :=
  fun w' H' I x' => h w' H' I (x.trans x')
theorem kA_ext {G : Gx} {w w1 : Wd} {e : Lcs} {σ : L2.St} {H H1 : Hp} {Q : List V → Hp → Prop} {d : List Dat} {s : Sto} (x : EExt w H w1 H1) (h : kA G w e σ H Q d s) : kA G w1 e σ H1 Q d s :=
  fun w' v H' I x' r => h w' v H' I (x.trans x') r

section
variable {X : Cx} {G : Gx}
theorem PE_imp {a : Expr} {t t' : TE} (h : PE X a t) (k : ∀ σ H Q, t' σ H Q → t σ H Q) : PE X a t' := ⟨fun pins s σ H Q I q => h.run pins s σ H Q I (k _ _ _ q)⟩
theorem PT_imp {a : Expr} {t t' : TT} (h : PT X a t) (k : ∀ σ H Q, t' σ H Q → t σ H Q) : PT X a t' := ⟨fun pins s σ H Q I q => h.run pins s σ H Q I (k _ _ _ q)⟩
theorem PW_imp {a : Expr} {t t' : TT} (h : PW X a t) (k : ∀ σ H Q, t' σ H Q → t σ H Q) : PW X a t' := ⟨fun wh pins s σ H Q I q => h.run wh pins s σ H Q I (k _ _ _ q)⟩
theorem PA_imp {a : List Expr} {t t' : TA} (h : PA X a t) (k : ∀ σ H Q, t' σ H Q → t σ H Q) : PA X a t' := ⟨fun pos pins s σ H Q I q => h.run pos pins s σ H Q I (k _ _ _ q)⟩
theorem PS_imp {a : Stmt} {t t' : TS} (h : PS X a t) (k : ∀ D σ H, t' D σ H → t D σ H) : PS X a t' := ⟨fun pins s σ H D I q => h.run pins s σ H D I (k _ _ _ q)⟩
theorem PSs_imp {a : List Stmt} {t t' : TS} (h : PSs X a t) (k : ∀ D σ H, t' D σ H → t D σ H) : PSs X a t' := ⟨fun pins s σ H D I q => h.run pins s σ H D I (k _ _ _ q)⟩

/-! ### names, constants -/
@[simp] def fVar (i : Nat) : FE := fun e s => match e[i]? with
  | some (.fz d) => .ok d s
  | _ => .bad
@[simp] def fC (d : Dat) : FE := fun _ s => .ok d s
theorem de_var (i : Nat) {x : Str} {pos : Pos} (hN : X.N[i]? = some x := by rfl) (hv : Vis X.env.scope x := by first | exact Or.inl rfl | exact Or.inr (Or.inl rfl) | exact Or.inr (Or.inr rfl)) (hd : (x == ("__debug__" : Str)) = false := by decide)
    (hcd : (x == ("__classdict__" : Str)) = false := by decide) : PE X (.Name x pos) (tE G (fVar i)) := PE_imp (pe_var (i := i) hN hv hd hcd) fun σ H Q ⟨w, e, s, I, h⟩ => by
  unfold fVar at h
  split at h
  · rename_i d hd
    obtain ⟨v, h1, h2⟩ := I.slot i d hd
    exact ⟨v, h1, h w v H I .refl h2⟩
  · exact h.elim
theorem de_c {a : Expr} {v : V} {d : Dat} (h : PE X a (tC v)) (hr : ∀ F as, Rp G.K as F d v) : PE X a (tE G (fC d)) := PE_imp h fun σ H Q ⟨w, e, s, I, h⟩ => h w v H I .refl (hr _ _)
theorem de_int {i j pos} : PE X (.Constant (.int i) j pos) (tE G (fC (.int i))) := de_c pe_int fun _ _ => by simp [Rp]
theorem de_bl {b j pos} : PE X (.Constant (.bool b) j pos) (tE G (fC (.bool b))) := de_c pe_bl fun _ _ => by simp [Rp]
theorem de_non {j pos} : PE X (.Constant .none j pos) (tE G (fC .none)) := de_c pe_non fun _ _ => by simp [Rp]
theorem de_str {x j pos} : PE X (.Constant (.str x) j pos) (tE G (fC (.str x))) := de_c pe_str fun _ _ => by simp [Rp]
theorem de_glob {x : Str} {v : V} {u : Value} {d : Dat} {pos : Pos} (hm : X.mg x = some u) (r : RelV v u) (hr : ∀ F as, Rp G.K as F d v) (hg : Gl X x := by rfl) (hd : (x == ("__debug__" : Str)) = false := by decide) : PE X (.Name x pos) (tE G (fC d)) :=
  de_c (pe_glob hg hm r hd) hr

/-! ### operators -/
@[simp] def fBin (g : Dat → Dat → Sto → Res Dat) (Fa Fb : FE) : FE := fun e s => (Fa e s).bind fun a s1 => (Fb e s1).bind fun b s2 => g a b s2
@[simp] def fUn (g : Dat → Sto → Res Dat) (Fa : FE) : FE := fun e s => (Fa e s).bind fun a s1 => g a s1
/-- a two-place rule by values does what g says -/
def OpD (G : Gx) (r : R2) (g : Dat → Dat → Sto → Res Dat) : Prop := ∀ w e s σ H x y a b Q, IE G w e s σ H → Rp G.K w.as (Fz w H) a x → Rp G.K w.as (Fz w H) b y → (g a b s).holds (kE G w e σ H Q) (kX G w e σ H) → r x y H Q
def UnD (G : Gx) (r : V → Hp → VK → Prop) (g : Dat → Sto → Res Dat) : Prop := ∀ w e s σ H x a Q, IE G w e s σ H → Rp G.K w.as (Fz w H) a x → (g a s).holds (kE G w e σ H Q) (kX G w e σ H) → r x H Q
def CallD (G : Gx) (r : List V → Hp → VK → Prop) (g : List Dat → Sto → Res Dat) : Prop := ∀ w e s σ H xs ds Q, IE G w e s σ H → RpL G.K w.as (Fz w H) ds xs → (g ds s).holds (kE G w e σ H Q) (kX G w e σ H) → r xs H Q
theorem tOp_of {r : R2} {g : Dat → Dat → Sto → Res Dat} {Fa Fb : FE} (hg : OpD G r g) {σ : L2.St} {H : Hp} {Q : VK} (h : tE G (fBin g Fa Fb) σ H Q) : tOp r (tE G Fa) (tE G Fb) σ H Q := by
  obtain ⟨w, e, s, I, h⟩ := h
  refine ⟨w, e, s, I, holds_imp (holds_bind h) fun a s1 h1 w1 x H1 I1 x1 r1 => ?_⟩
  refine ⟨w1, e, s1, I1, holds_imp (holds_bind h1) fun b s2 h2 w2 y H2 I2 x2 r2 => ?_⟩
  exact hg w2 e s2 σ H2 x y a b Q I2 (x2.rp r1) r2 (holds_imp h2 fun d s3 h3 => kE_ext (x1.trans x2) h3)
theorem de_bin {a b : Expr} {op : Operator} {pos : Pos} {r : R2} {g : Dat → Dat → Sto → Res Dat} {Fa Fb : FE} (ho : OpR X (binaryOp op) r) (hg : OpD G r g) (ha : PE X a (tE G Fa)) (hb : PE X b (tE G Fb)) : PE X (.BinOp a op b pos) (tE G (fBin g Fa Fb)) :=
  PE_imp (pe_op ho ha hb) fun _ _ _ h => tOp_of hg h
theorem de_cmp {a b : Expr} {op : CmpOp} {pos : Pos} {r : R2} {g : Dat → Dat → Sto → Res Dat} {Fa Fb : FE} (ho : OpR X (compareOp op) r) (hg : OpD G r g) (ha : PE X a (tE G Fa)) (hb : PE X b (tE G Fb)) (hm : behindInMarks op b = false := by first | exact nomark _ | with_unfolding_all rfl) :
    PE X (.Compare a [op] [b] pos) (tE G (fBin g Fa Fb)) := PE_imp (pe_cmpR ho ha hb hm) fun _ _ _ h => tOp_of hg h
theorem de_un {a : Expr} {op : UnaryOp} {pos : Pos} {r : V → Hp → VK → Prop} {g : Dat → Sto → Res Dat} {Fa : FE} (ho : UnR X (unaryOp op) r) (hg : UnD G r g) (ha : PE X a (tE G Fa)) : PE X (.UnaryOp op a pos) (tE G (fUn g Fa)) :=
  PE_imp (pe_un ho ha) fun σ H Q ⟨w, e, s, I, h⟩ => ⟨w, e, s, I, holds_imp (holds_bind h) fun a s1 h1 w1 x H1 I1 x1 r1 => hg w1 e s1 σ H1 x a Q I1 r1 (holds_imp h1 fun d s2 h2 => kE_ext x1 h2)⟩
/-- a value that hangs on no heap -/
theorem flat_ok {w : Wd} {e : Lcs} {s : Sto} {σ : L2.St} {H : Hp} {Q : VK} {d : Dat} {v : V} (I : IE G w e s σ H) {R : Dat → Sto → Prop} (h : (Res.ok d s).holds (kE G w e σ H Q) R) (hr : Rp G.K w.as (Fz w H) d v) : Q v H := h w v H I .refl hr
theorem OpD.or {r r' : R2} {g : Dat → Dat → Sto → Res Dat} (h : ∀ w e s σ H x y a b Q, IE G w e s σ H → Rp G.K w.as (Fz w H) a x → Rp G.K w.as (Fz w H) b y → (g a b s).holds (kE G w e σ H Q) (kX G w e σ H) → r x y H Q ∨ r' x y H Q) : OpD G (fun x y H Q => r x y H Q ∨ r' x y H Q) g := h
/-- ints in, an int out -/
@[simp] def gII (C : Int → Int → Bool) (f : Int → Int → Int) : Dat → Dat → Sto → Res Dat := fun a b s => match a, b with
  | .int i, .int j => if C i j then .ok (.int (f i j)) s else .bad
  | _, _ => .bad
@[simp] def gII0 (f : Int → Int → Int) : Dat → Dat → Sto → Res Dat := fun a b s => match a, b with
  | .int i, .int j => .ok (.int (f i j)) s
  | _, _ => .bad
@[simp] def gIB (f : Int → Int → Bool) : Dat → Dat → Sto → Res Dat := fun a b s => match a, b with
  | .int i, .int j => .ok (.bool (f i j)) s
  | _, _ => .bad
theorem rp_int {K as F} {i : Int} {v : V} (h : Rp K as F (.int i) v) : v = .int i := by simpa [Rp] using h
theorem rp_bool {K as F} {i : Bool} {v : V} (h : Rp K as F (.bool i) v) : v = .bl i := by simpa [Rp] using h
theorem rp_str {K as F} {i : Str} {v : V} (h : Rp K as F (.str i) v) : v = .str i := by simpa [Rp] using h
theorem rp_none {K as F} {v : V} (h : Rp K as F .none v) : v = .non := by simpa [Rp] using h
theorem rp_list {K as F} {ds : List Dat} {v : V} (h : Rp K as F (.list ds) v) : ∃ a xs, v = .ref a ∧ F a = some (.lst xs) ∧ RpL K as F ds xs := by simpa only [Rp] using h
theorem rp_tuple {K as F} {ds : List Dat} {v : V} (h : Rp K as F (.tuple ds) v) : ∃ a xs, v = .ref a ∧ SqT K F a xs ∧ RpL K as F ds xs := by simpa only [Rp] using h
theorem rp_cel {K as F} {n : Nat} {v : V} (h : Rp K as F (cel n) v) : ∃ a, v = .ref a ∧ as[n]? = some a := by simpa [Rp] using h
theorem rp_i {K as F} {i : Int} : Rp K as F (.int i) (.int i) := by simp [Rp]
theorem rp_b {K as F} {i : Bool} : Rp K as F (.bool i) (.bl i) := by simp [Rp]
theorem rp_s {K as F} {i : Str} : Rp K as F (.str i) (.str i) := by simp [Rp]
theorem rp_n {K as F} : Rp K as F .none .non := by simp [Rp]
theorem opII {C : Int → Int → Prop} {C' : Int → Int → Bool} {f : Int → Int → Int} (hc : ∀ i j, C' i j = true → C i j) : OpD G (rI C fun i j => .int (f i j)) (gII C' f) := by
  intro w e s σ H x y a b Q I ra rb h
  unfold gII at h
  split at h
  · rename_i i j
    split at h
    · rename_i c
      exact ⟨i, j, rp_int ra, rp_int rb, hc i j c, flat_ok I h rp_i⟩
    · exact h.elim
  · exact h.elim
theorem opII0 {f : Int → Int → Int} : OpD G (rI0 fun i j => .int (f i j)) (gII0 f) := by
  intro w e s σ H x y a b Q I ra rb h
  unfold gII0 at h
  split at h
  · rename_i i j
    exact ⟨i, j, rp_int ra, rp_int rb, flat_ok I h rp_i⟩
  · exact h.elim
theorem opIB {f : Int → Int → Bool} : OpD G (rI0 fun i j => .bl (f i j)) (gIB f) := by
  intro w e s σ H x y a b Q I ra rb h
  unfold gIB at h
  split at h
  · rename_i i j
    exact ⟨i, j, rp_int ra, rp_int rb, flat_ok I h rp_b⟩
  · exact h.elim
def cMul (i j : Int) : Bool := decide (i.natAbs.log2 + j.natAbs.log2 < 1000000)
def cDiv (i j : Int) : Bool := decide (0 < j) && decide (j.natAbs.log2 < 9000)
def cMod (i j : Int) : Bool := decide (0 < j)
def cPow (i j : Int) : Bool := decide (0 ≤ j) && decide (j ≤ 1000000) && decide (i.natAbs < 2 ^ 64)
section
variable {a b : Expr} {pos : Pos} {Fa Fb : FE}
theorem de_sub (ha : PE X a (tE G Fa)) (hb : PE X b (tE G Fb)) : PE X (.BinOp a .Sub b pos) (tE G (fBin (gII0 (· - ·)) Fa Fb)) := de_bin op_sub opII0 ha hb
theorem de_addI (ha : PE X a (tE G Fa)) (hb : PE X b (tE G Fb)) : PE X (.BinOp a .Add b pos) (tE G (fBin (gII0 (· + ·)) Fa Fb)) := de_bin op_add opII0 ha hb
theorem de_mul (ha : PE X a (tE G Fa)) (hb : PE X b (tE G Fb)) : PE X (.BinOp a .Mult b pos) (tE G (fBin (gII cMul (· * ·)) Fa Fb)) := de_bin op_mulW (opII fun i j h => show i.natAbs.log2 + j.natAbs.log2 < 1000000 from of_decide_eq_true h) ha hb
theorem de_fdiv (ha : PE X a (tE G Fa)) (hb : PE X b (tE G Fb)) : PE X (.BinOp a .FloorDiv b pos) (tE G (fBin (gII cDiv (· / ·)) Fa Fb)) := de_bin op_fdivW (opII fun i j h => by
  unfold cDiv at h
  rw [Bool.and_eq_true] at h
  exact ⟨of_decide_eq_true h.1, of_decide_eq_true h.2⟩) ha hb
theorem de_mod (ha : PE X a (tE G Fa)) (hb : PE X b (tE G Fb)) : PE X (.BinOp a .Mod b pos) (tE G (fBin (gII cMod (· % ·)) Fa Fb)) := de_bin op_mod (opII fun i j h => of_decide_eq_true h) ha hb
theorem de_pow (ha : PE X a (tE G Fa)) (hb : PE X b (tE G Fb)) : PE X (.BinOp a .Pow b pos) (tE G (fBin (gII cPow fun i j => i ^ j.toNat) Fa Fb)) := de_bin op_pow (opII fun i j h => by
  unfold cPow at h
  rw [Bool.and_eq_true, Bool.and_eq_true] at h
  exact ⟨of_decide_eq_true h.1.1, of_decide_eq_true h.1.2, of_decide_eq_true h.2⟩) ha hb
theorem de_shl (ha : PE X a (tE G Fa)) (hb : PE X b (tE G Fb)) : PE X (.BinOp a .LShift b pos) (tE G (fBin (gII cPow fun i j => i * 2 ^ j.toNat) Fa Fb)) := de_bin op_shl (opII fun i j h => by
  unfold cPow at h
  rw [Bool.and_eq_true, Bool.and_eq_true] at h
  exact ⟨of_decide_eq_true h.1.1, of_decide_eq_true h.1.2, of_decide_eq_true h.2⟩) ha hb
theorem de_lt (ha : PE X a (tE G Fa)) (hb : PE X b (tE G Fb)) : PE X (.Compare a [.Lt] [b] pos) (tE G (fBin (gIB fun i j => decide (i < j)) Fa Fb)) := de_cmp op_lt opIB ha hb
theorem de_le (ha : PE X a (tE G Fa)) (hb : PE X b (tE G Fb)) : PE X (.Compare a [.LtE] [b] pos) (tE G (fBin (gIB fun i j => decide (i ≤ j)) Fa Fb)) := de_cmp op_le opIB ha hb
theorem de_gt (ha : PE X a (tE G Fa)) (hb : PE X b (tE G Fb)) : PE X (.Compare a [.Gt] [b] pos) (tE G (fBin (gIB fun i j => decide (j < i)) Fa Fb)) := de_cmp op_gt opIB ha hb
theorem de_ge (ha : PE X a (tE G Fa)) (hb : PE X b (tE G Fb)) : PE X (.Compare a [.GtE] [b] pos) (tE G (fBin (gIB fun i j => decide (j ≤ i)) Fa Fb)) := de_cmp op_ge opIB ha hb
end
/-! ### == of data -/
mutual
theorem dp_of {K as F} : ∀ (d : Dat) (v : V), d.canLay0 = true → Rp K as F d v → Dp K F v d
  | .none, v, _, h => by rw [rp_none h]; exact .non
  | .bool b, v, _, h => by rw [rp_bool h]; exact .bl b
  | .int i, v, _, h => by rw [rp_int h]; exact .int i
  | .str x, v, _, h => by rw [rp_str h]; exact .str x
  | .list ds, v, c, h => by
    obtain ⟨a, xs, rfl, q, r⟩ := rp_list h
    exact .lst (.inl (.inl q)) (dpA_of ds xs (by simpa [PyData.canLay0] using c) r)
  | .tuple ds, v, c, h => by
    obtain ⟨a, xs, rfl, q, r⟩ := rp_tuple h
    exact .tup q (dpA_of ds xs (by simpa [PyData.canLay0] using c) r)
  | .dict _, v, c, h => by simp [PyData.canLay0] at c
theorem dpA_of {K as F} : ∀ (ds : List Dat) (vs : List V), PyData.canLayAll0 ds = true → RpL K as F ds vs → DpAll K F vs ds
  | [], [], _, _ => .nil
  | d :: ds, v :: vs, c, h => by
    simp only [PyData.canLayAll0, Bool.and_eq_true] at c
    simp only [RpL] at h
    exact .cons (dp_of d v c.1 h.1) (dpA_of ds vs c.2 h.2)
  | [], _ :: _, _, h => by simp [RpL] at h
  | _ :: _, [], _, h => by simp [RpL] at h
end
mutual
theorem Dp_mono {K : PySem.W.Frag} {F F' : Hp} (hs : Same F F') : ∀ (d : Dat) (v : V), Dp K F v d → Dp K F' v d
  | .none, v, h => by cases h; exact .non
  | .bool b, v, h => by cases h; exact .bl b
  | .int i, v, h => by cases h; exact .int i
  | .str x, v, h => by cases h; exact .str x
  | .list ds, v, h => by
    cases h with
    | lst q r => exact .lst (sqL_mono hs q) (DpA_mono hs ds _ r)
  | .tuple ds, v, h => by
    cases h with
    | tup q r => exact .tup (sqT_mono hs q) (DpA_mono hs ds _ r)
  | .dict _, v, h => by cases h
theorem DpA_mono {K : PySem.W.Frag} {F F' : Hp} (hs : Same F F') : ∀ (ds : List Dat) (vs : List V), DpAll K F vs ds → DpAll K F' vs ds
  | [], vs, h => by cases h; exact .nil
  | d :: ds, vs, h => by
    cases h with
    | cons q r => exact .cons (Dp_mono hs d _ q) (DpA_mono hs ds _ r)
end
def gEq : Dat → Dat → Sto → Res Dat := fun a b s => if SeqAt.shaped a && SeqAt.shaped b then .ok (.bool (PyData.eqv a b)) s else .bad
def gNe : Dat → Dat → Sto → Res Dat := fun a b s => if SeqAt.shaped a && SeqAt.shaped b then .ok (.bool (!PyData.eqv a b)) s else .bad
theorem opEq : OpD G (rEqD G.K) gEq := by
  intro w e s σ H x y a b Q I ra rb h
  unfold gEq at h
  split at h
  · rename_i c
    rw [Bool.and_eq_true] at c
    exact ⟨a, b, Dp_mono Fz_sub _ _ (dp_of a x (SeqAt.canLay_of_shaped c.1) ra), Dp_mono Fz_sub _ _ (dp_of b y (SeqAt.canLay_of_shaped c.2) rb), c.1, c.2, flat_ok I h rp_b⟩
  · exact h.elim
theorem opNe : OpD G (rNeD G.K) gNe := by
  intro w e s σ H x y a b Q I ra rb h
  unfold gNe at h
  split at h
  · rename_i c
    rw [Bool.and_eq_true] at c
    exact ⟨a, b, Dp_mono Fz_sub _ _ (dp_of a x (SeqAt.canLay_of_shaped c.1) ra), Dp_mono Fz_sub _ _ (dp_of b y (SeqAt.canLay_of_shaped c.2) rb), c.1, c.2, flat_ok I h rp_b⟩
  · exact h.elim
section
variable {a b : Expr} {pos : Pos} {Fa Fb : FE}
theorem de_eq (hu : X.A.units + 64 < cLine) (hK : X.K = G.K) (ha : PE X a (tE G Fa)) (hb : PE X b (tE G Fb)) : PE X (.Compare a [.Eq] [b] pos) (tE G (fBin gEq Fa Fb)) := de_cmp (op_eqD hu) (by rw [hK]; exact opEq) ha hb
theorem de_ne (hu : X.A.units + 64 < cLine) (hK : X.K = G.K) (ha : PE X a (tE G Fa)) (hb : PE X b (tE G Fb)) : PE X (.Compare a [.NotEq] [b] pos) (tE G (fBin gNe Fa Fb)) := de_cmp (op_neD hu) (by rw [hK]; exact opNe) ha hb
end
/-! ### -a -/
@[simp] def gNeg : Dat → Sto → Res Dat := fun a s => match a with
  | .int i => .ok (.int (-i)) s
  | _ => .bad
theorem de_neg {a : Expr} {pos : Pos} {Fa : FE} (ha : PE X a (tE G Fa)) : PE X (.UnaryOp .USub a pos) (tE G (fUn gNeg Fa)) := de_un un_neg (fun w e s σ H x a Q I ra h => by
  unfold gNeg at h
  split at h
  · rename_i i
    exact ⟨i, rp_int ra, flat_ok I h rp_i⟩
  · exact h.elim) ha

/-! ### tests -/
/-- a value that is a bool, as a test -/
@[simp] def fB (F : FE) : FT := fun e s => (F e s).bind fun d s' => match d with
  | .bool b => .ok b s'
  | _ => .bad
theorem tB_of {F : FE} {σ : L2.St} {H : Hp} {Q : Bool → Hp → Prop} (h : tT G (fB F) σ H Q) : tB (tE G F) σ H Q := by
  obtain ⟨w, e, s, I, h⟩ := h
  refine ⟨w, e, s, I, holds_imp (holds_bind h) fun d s1 h1 w1 x H1 I1 x1 r1 => ?_⟩
  split at h1
  · rename_i b
    exact ⟨b, rp_bool r1, h1 w1 H1 I1 x1⟩
  · exact h1.elim
theorem dt_val {a : Expr} {F : FE} (h : PE X a (tE G F)) (he : ∀ whole, isTrue a X.env whole = (do let v ← whole; standAt a.pos; holding [v] (truthy v)) := by intro _; rfl) : PT X a (tT G (fB F)) := PT_imp (pt_val h he) fun _ _ _ h => tB_of h
theorem dt_cmp {a b : Expr} {op : CmpOp} {pos : Pos} {r : R2} {g : Dat → Dat → Sto → Res Dat} {Fa Fb : FE} (ho : OpR X (compareOp op) r) (hg : OpD G r g) (ha : PE X a (tE G Fa)) (hb : PE X b (tE G Fb)) (hm : behindInMarks op b = false := by first | exact nomark _ | with_unfolding_all rfl) :
    PT X (.Compare a [op] [b] pos) (tT G (fB (fBin g Fa Fb))) := PT_imp (pt_cmpR ho ha hb hm) fun σ H Q h => by
  obtain ⟨w, e, s, I, h⟩ := h
  show tOp r (tE G Fa) (tE G Fb) σ H fun x H' => ∃ k, x = .bl k ∧ Q k H'
  refine tOp_of hg ⟨w, e, s, I, holds_imp (holds_bind h) fun d s1 h1 w1 x H1 I1 x1 r1 => ?_⟩
  split at h1
  · rename_i b
    exact ⟨b, rp_bool r1, h1 w1 H1 I1 x1⟩
  · exact h1.elim
section
variable {a b : Expr} {pos : Pos} {Fa Fb : FE}
theorem dt_lt (ha : PE X a (tE G Fa)) (hb : PE X b (tE G Fb)) : PT X (.Compare a [.Lt] [b] pos) (tT G (fB (fBin (gIB fun i j => decide (i < j)) Fa Fb))) := dt_cmp op_lt opIB ha hb
theorem dt_le (ha : PE X a (tE G Fa)) (hb : PE X b (tE G Fb)) : PT X (.Compare a [.LtE] [b] pos) (tT G (fB (fBin (gIB fun i j => decide (i ≤ j)) Fa Fb))) := dt_cmp op_le opIB ha hb
theorem dt_gt (ha : PE X a (tE G Fa)) (hb : PE X b (tE G Fb)) : PT X (.Compare a [.Gt] [b] pos) (tT G (fB (fBin (gIB fun i j => decide (j < i)) Fa Fb))) := dt_cmp op_gt opIB ha hb
theorem dt_ge (ha : PE X a (tE G Fa)) (hb : PE X b (tE G Fb)) : PT X (.Compare a [.GtE] [b] pos) (tT G (fB (fBin (gIB fun i j => decide (j ≤ i)) Fa Fb))) := dt_cmp op_ge opIB ha hb
theorem dt_eq (hu : X.A.units + 64 < cLine) (hK : X.K = G.K) (ha : PE X a (tE G Fa)) (hb : PE X b (tE G Fb)) : PT X (.Compare a [.Eq] [b] pos) (tT G (fB (fBin gEq Fa Fb))) := dt_cmp (op_eqD hu) (by rw [hK]; exact opEq) ha hb
theorem dt_ne (hu : X.A.units + 64 < cLine) (hK : X.K = G.K) (ha : PE X a (tE G Fa)) (hb : PE X b (tE G Fb)) : PT X (.Compare a [.NotEq] [b] pos) (tT G (fB (fBin gNe Fa Fb))) := dt_cmp (op_neD hu) (by rw [hK]; exact opNe) ha hb
end
@[simp] def fAnd (Fa Fb : FT) : FT := fun e s => (Fa e s).bind fun a s1 => if a then Fb e s1 else .ok false s1
@[simp] def fOr (Fa Fb : FT) : FT := fun e s => (Fa e s).bind fun a s1 => if a then .ok true s1 else Fb e s1
@[simp] def fNot (Fa : FT) : FT := fun e s => (Fa e s).bind fun a s1 => .ok (!a) s1
section
variable {a b : Expr} {rest : List Expr} {pos : Pos} {Fa Fb : FT}
theorem tAnd_of {σ : L2.St} {H : Hp} {Q : Bool → Hp → Prop} (h : tT G (fAnd Fa Fb) σ H Q) : tAnd (tT G Fa) (tT G Fb) σ H Q := by
  obtain ⟨w, e, s, I, h⟩ := h
  refine ⟨w, e, s, I, holds_imp (holds_bind h) fun d s1 h1 w1 H1 I1 x1 => ?_⟩
  cases d with
  | true => exact iteT ⟨w1, e, s1, I1, holds_imp h1 fun _ _ h2 => kT_ext x1 h2⟩
  | false => exact iteF (h1 w1 H1 I1 x1)
theorem tOr_of {σ : L2.St} {H : Hp} {Q : Bool → Hp → Prop} (h : tT G (fOr Fa Fb) σ H Q) : tOr (tT G Fa) (tT G Fb) σ H Q := by
  obtain ⟨w, e, s, I, h⟩ := h
  refine ⟨w, e, s, I, holds_imp (holds_bind h) fun d s1 h1 w1 H1 I1 x1 => ?_⟩
  cases d with
  | false => exact iteF ⟨w1, e, s1, I1, holds_imp h1 fun _ _ h2 => kT_ext x1 h2⟩
  | true => exact iteT (h1 w1 H1 I1 x1)
theorem dw_and1 (ha : PT X a (tT G Fa)) : PW X (.BoolOp .And [a] pos) (tT G Fa) := pw_and1 ha
theorem dw_or1 (ha : PT X a (tT G Fa)) : PW X (.BoolOp .Or [a] pos) (tT G Fa) := pw_or1 ha
theorem dw_and (ha : PT X a (tT G Fa)) (hb : PW X (.BoolOp .And (b :: rest) pos) (tT G Fb)) : PW X (.BoolOp .And (a :: b :: rest) pos) (tT G (fAnd Fa Fb)) := PW_imp (pw_and ha hb) fun _ _ _ h => tAnd_of h
theorem dw_or (ha : PT X a (tT G Fa)) (hb : PW X (.BoolOp .Or (b :: rest) pos) (tT G Fb)) : PW X (.BoolOp .Or (a :: b :: rest) pos) (tT G (fOr Fa Fb)) := PW_imp (pw_or ha hb) fun _ _ _ h => tOr_of h
theorem dt_bool (h : PW X a (tT G Fa)) : PT X a (tT G Fa) := h.pt
theorem dt_not (ha : PT X a (tT G Fa)) : PT X (.UnaryOp .Not a pos) (tT G (fNot Fa)) := PT_imp (pt_not ha) fun σ H Q ⟨w, e, s, I, h⟩ => ⟨w, e, s, I, holds_imp (holds_bind h) fun d s1 h1 w1 H1 I1 x1 => h1 w1 H1 I1 x1⟩
end
/-- .. as values -/
@[simp] def fAndV (Fa Fb : FE) : FE := fun e s => (fB Fa e s).bind fun a s1 => if a then Fb e s1 else .ok (.bool false) s1
@[simp] def fOrV (Fa Fb : FE) : FE := fun e s => (fB Fa e s).bind fun a s1 => if a then .ok (.bool true) s1 else Fb e s1
@[simp] def fNotV (Fa : FE) : FE := fun e s => (fB Fa e s).bind fun a s1 => .ok (.bool (!a)) s1
section
variable {a b : Expr} {rest : List Expr} {pos : Pos} {Fa Fb : FE}
theorem de_one {op : BoolOp} (h : PE X a (tE G Fa)) : PE X (.BoolOp op [a] pos) (tE G Fa) := pe_one h
theorem de_and (ha : PE X a (tE G Fa)) (hb : PE X (.BoolOp .And (b :: rest) pos) (tE G Fb)) : PE X (.BoolOp .And (a :: b :: rest) pos) (tE G (fAndV Fa Fb)) := PE_imp (pe_and ha hb) fun σ H Q ⟨w, e, s, I, h⟩ => by
  refine ⟨w, e, s, I, holds_imp (holds_bind (holds_bind h)) fun d s1 h1 w1 x H1 I1 x1 r1 => ?_⟩
  split at h1
  · rename_i c
    refine ⟨c, rp_bool r1, ?_⟩
    cases c with
    | true => exact iteT ⟨w1, e, s1, I1, holds_imp h1 fun _ _ h2 => kE_ext x1 h2⟩
    | false => exact iteF (h1 w1 _ H1 I1 x1 rp_b)
  · exact h1.elim
theorem de_or (ha : PE X a (tE G Fa)) (hb : PE X (.BoolOp .Or (b :: rest) pos) (tE G Fb)) : PE X (.BoolOp .Or (a :: b :: rest) pos) (tE G (fOrV Fa Fb)) := PE_imp (pe_or ha hb) fun σ H Q ⟨w, e, s, I, h⟩ => by
  refine ⟨w, e, s, I, holds_imp (holds_bind (holds_bind h)) fun d s1 h1 w1 x H1 I1 x1 r1 => ?_⟩
  split at h1
  · rename_i c
    refine ⟨c, rp_bool r1, ?_⟩
    cases c with
    | false => exact iteF ⟨w1, e, s1, I1, holds_imp h1 fun _ _ h2 => kE_ext x1 h2⟩
    | true => exact iteT (h1 w1 _ H1 I1 x1 rp_b)
  · exact h1.elim
theorem de_not (ha : PE X a (tE G Fa)) : PE X (.UnaryOp .Not a pos) (tE G (fNotV Fa)) := PE_imp (pe_not ha) fun σ H Q ⟨w, e, s, I, h⟩ => by
  refine ⟨w, e, s, I, holds_imp (holds_bind (holds_bind h)) fun d s1 h1 w1 x H1 I1 x1 r1 => ?_⟩
  split at h1
  · rename_i c
    exact ⟨c, rp_bool r1, h1 w1 _ H1 I1 x1 rp_b⟩
  · exact h1.elim
@[simp] def fIf (Fc : FT) (Fa Fb : FE) : FE := fun e s => (Fc e s).bind fun c s1 => if c then Fa e s1 else Fb e s1
theorem de_if {c : Expr} {Fc : FT} (hc : PT X c (tT G Fc)) (ha : PE X a (tE G Fa)) (hb : PE X b (tE G Fb)) : PE X (.IfExp c a b pos) (tE G (fIf Fc Fa Fb)) := PE_imp (pe_ifExp hc ha hb) fun σ H Q ⟨w, e, s, I, h⟩ => by
  refine ⟨w, e, s, I, holds_imp (holds_bind h) fun d s1 h1 w1 H1 I1 x1 => ?_⟩
  cases d with
  | true => exact iteT ⟨w1, e, s1, I1, holds_imp h1 fun _ _ h2 => kE_ext x1 h2⟩
  | false => exact iteF ⟨w1, e, s1, I1, holds_imp h1 fun _ _ h2 => kE_ext x1 h2⟩
end

/-! ### argument lists, displays -/
@[simp] def fNil : FA := fun _ s => .ok [] s
@[simp] def fCons (Fa : FE) (Fr : FA) : FA := fun e s => (Fa e s).bind fun a s1 => (Fr e s1).bind fun r s2 => .ok (a :: r) s2
theorem da_nil : PA X [] (tA G fNil) := PA_imp pa_nil fun σ H Q ⟨w, e, s, I, h⟩ => h w [] H I .refl RpL.nil
theorem da_cons {a : Expr} {r : List Expr} {Fa : FE} {Fr : FA} (ha : PE X a (tE G Fa)) (hr : PA X r (tA G Fr)) (hs : starEach (a :: r) X.env = (false, eval a X.env) :: starEach r X.env := by rfl) : PA X (a :: r) (tA G (fCons Fa Fr)) :=
  PA_imp (pa_cons ha hr hs) fun σ H Q ⟨w, e, s, I, h⟩ => by
    refine ⟨w, e, s, I, holds_imp (holds_bind h) fun a s1 h1 w1 x H1 I1 x1 r1 => ?_⟩
    refine ⟨w1, e, s1, I1, holds_imp (holds_bind h1) fun as s2 h2 w2 xs H2 I2 x2 r2 => ?_⟩
    exact h2 w2 (x :: xs) H2 I2 (x1.trans x2) (RpL.cons (x2.rp r1) r2)
@[simp] def cLen {α : Type} (ds : List α) : Bool := decide (ds.length ≤ sizeLine)
@[simp] def fTup (Fs : FA) : FE := fun e s => (Fs e s).bind fun ds s1 => if cLen ds then .ok (.tuple ds) s1 else .bad
@[simp] def fLst (Fs : FA) : FE := fun e s => (Fs e s).bind fun ds s1 => if cLen ds then .ok (.list ds) s1 else .bad
theorem new_list {w : Wd} {e : Lcs} {s : Sto} {σ : L2.St} {H : Hp} {Q : VK} {ds : List Dat} {vs : List V} {p : Addr} (I : IE G w e s σ H) (r : RpL G.K w.as (Fz w H) ds vs) (h : kE G w e σ H Q (.list ds) s) (hp : H p = none) : Q (.ref p) (upd H p (.lst vs)) :=
  h w _ _ (I.new hp) (I.newE hp) (by
    simp only [Rp]
    exact ⟨p, vs, rfl, I.newF hp, (I.newE hp).rpl r⟩)
theorem new_tuple {w : Wd} {e : Lcs} {s : Sto} {σ : L2.St} {H : Hp} {Q : VK} {ds : List Dat} {vs : List V} {p : Addr} (I : IE G w e s σ H) (r : RpL G.K w.as (Fz w H) ds vs) (h : kE G w e σ H Q (.tuple ds) s) (hp : H p = none) : Q (.ref p) (upd H p (.tup vs)) :=
  h w _ _ (I.new hp) (I.newE hp) (by
    simp only [Rp]
    exact ⟨p, vs, rfl, .inl (.inl (I.newF hp)), (I.newE hp).rpl r⟩)
section
variable {es : List Expr} {pos : Pos} {Fs : FA}
theorem de_tup {x1} (h : PA X es (tA G Fs)) : PE X (.Tuple es x1 pos) (tE G (fTup Fs)) := PE_imp (pe_tup h) fun σ H Q ⟨w, e, s, I, h⟩ => by
  refine ⟨w, e, s, I, holds_imp (holds_bind h) fun ds s1 h1 w1 xs H1 I1 x1 r1 => ?_⟩
  split at h1
  · rename_i c
    exact ⟨by rw [r1.length]; exact of_decide_eq_true c, fun p hp => new_tuple I1 r1 (kE_ext x1 h1) hp⟩
  · exact h1.elim
theorem de_lst (h : PA X es (tA G Fs)) : PE X (.List es pos) (tE G (fLst Fs)) := PE_imp (pe_lst h) fun σ H Q ⟨w, e, s, I, h⟩ => by
  refine ⟨w, e, s, I, holds_imp (holds_bind h) fun ds s1 h1 w1 xs H1 I1 x1 r1 => ?_⟩
  split at h1
  · rename_i c
    exact ⟨by rw [r1.length]; exact of_decide_eq_true c, fun p hp => new_list I1 r1 (kE_ext x1 h1) hp⟩
  · exact h1.elim
end

/-! ### subscripts -/
@[simp] def gIx : Dat → Dat → Sto → Res Dat := fun a b s => match b with
  | .int i => match a with
    | .list ds => match atI ds i with
      | some d => .ok d s
      | none => .bad
    | .tuple ds => match atI ds i with
      | some d => .ok d s
      | none => .bad
    | .str z => if z.length ≤ sizeLine then match atI z.cps.toList i with
      | some c => .ok (.str ⟨#[c]⟩) s
      | none => .bad else .bad
    | .dict [(.int n, .none)] => match s[n.toNat]? with
      | some (.ls ds) => match atI ds i with
        | some d => .ok d s
        | none => .bad
      | _ => .bad
    | _ => .bad
  | _ => .bad
theorem atI_rp {K as F} {ds : List Dat} {vs : List V} {i : Int} {d : Dat} (r : RpL K as F ds vs) (h : atI ds i = some d) : ∃ v, atI vs i = some v ∧ Rp K as F d v := by
  unfold atI at h ⊢
  rw [r.length]
  cases e : ixN ds.length i with
  | none => rw [e] at h; cases h
  | some j =>
    rw [e] at h
    have h' : ds[j]? = some d := h
    obtain ⟨v, h1, h2⟩ := r.get' h'
    exact ⟨v, h1, h2⟩
theorem opIx : OpD G (rIx G.K) gIx := by
  intro w e s σ H x y a b Q I ra rb h
  unfold gIx at h
  split at h
  · rename_i i
    split at h
    · rename_i ds
      obtain ⟨p, xs, rfl, q, r⟩ := rp_list ra
      split at h
      · rename_i d hd
        obtain ⟨v, h1, h2⟩ := atI_rp r hd
        exact .inl ⟨p, xs, i, v, rfl, rp_int rb, .inl (.inl (Fz_sub _ _ q)), h1, flat_ok I h h2⟩
      · exact h.elim
    · rename_i ds
      obtain ⟨p, xs, rfl, q, r⟩ := rp_tuple ra
      split at h
      · rename_i d hd
        obtain ⟨v, h1, h2⟩ := atI_rp r hd
        exact .inr (.inl ⟨p, xs, i, v, rfl, rp_int rb, sqT_mono Fz_sub q, h1, flat_ok I h h2⟩)
      · exact h.elim
    · rename_i z
      split at h
      · rename_i hz
        split at h
        · rename_i c hc
          exact .inr (.inr ⟨z, i, c, rp_str ra, rp_int rb, hz, hc, flat_ok I h rp_s⟩)
        · exact h.elim
      · exact h.elim
    · rename_i n
      split at h
      · rename_i ds hs
        split at h
        · rename_i d hd
          have ra' : ∃ a, x = .ref a ∧ w.as[n.toNat]? = some a := by simpa [Rp] using ra
          obtain ⟨p, rfl, hp⟩ := ra'
          obtain ⟨a', vs, e1, e2, e3⟩ := I.cellL hs
          rw [hp] at e1; cases e1
          obtain ⟨v, h1, h2⟩ := atI_rp e3 hd
          exact .inl ⟨p, vs, i, v, rfl, rp_int rb, .inl (.inl e2), h1, flat_ok I h h2⟩
        · exact h.elim
      · exact h.elim
    · exact h.elim
  · exact h.elim
theorem de_ix {a b : Expr} {pos : Pos} {Fa Fb : FE} (hK : X.K = G.K) (ha : PE X a (tE G Fa)) (hb : PE X b (tE G Fb)) (hs : PlainIx b := by exact fun _ _ => rfl) : PE X (.Subscript a b pos) (tE G (fBin gIx Fa Fb)) :=
  PE_imp (pe_ix ix_seq ha hb hs) fun _ _ _ h => tOp_of (by rw [hK]; exact opIx) h
end
end DL

namespace DL
open PySem PySem.Spec PyProof.Rows L2
section
variable {X : Cx} {G : Gx}

/-! ### + -/
@[simp] def gAdd : Dat → Dat → Sto → Res Dat := fun a b s => match a, b with
  | .int i, .int j => .ok (.int (i + j)) s
  | .str x, .str y => if x.length + y.length ≤ sizeLine then .ok (.str (x ++ y)) s else .bad
  | .list xs, .list ys => if xs.length + ys.length ≤ sizeLine then .ok (.list (xs ++ ys)) s else .bad
  | .tuple xs, .tuple ys => if xs.length + ys.length ≤ sizeLine then .ok (.tuple (xs ++ ys)) s else .bad
  | _, _ => .bad
def rAdd (K : PySem.W.Frag) : R2 := fun x y H Q => rI0 (fun i j => .int (i + j)) x y H Q ∨ (∃ i j, x = .str i ∧ y = .str j ∧ i.length + j.length ≤ sizeLine ∧ Q (.str (i ++ j)) H) ∨ rCat x y H Q ∨ rCatA K x y H Q
theorem op_addA : OpR X (binaryOp .Add) (rAdd X.K) := op_add.or (op_add_str.or (op_cat.or op_catA))
theorem opAdd : OpD G (rAdd G.K) gAdd := by
  intro w e s σ H x y a b Q I ra rb h
  unfold gAdd at h
  split at h
  · rename_i i j
    exact .inl ⟨i, j, rp_int ra, rp_int rb, flat_ok I h rp_i⟩
  · rename_i i j
    split at h
    · rename_i c
      exact .inr (.inl ⟨i, j, rp_str ra, rp_str rb, c, flat_ok I h rp_s⟩)
    · exact h.elim
  · split at h
    · rename_i c
      obtain ⟨p, xs, rfl, hp, rx⟩ := rp_list ra
      obtain ⟨q, ys, rfl, hq, ry⟩ := rp_list rb
      exact .inr (.inr (.inl ⟨p, q, xs, ys, rfl, rfl, Fz_sub _ _ hp, Fz_sub _ _ hq, by rw [rx.length, ry.length]; exact c, fun l hl => new_list I (rx.append ry) h hl⟩))
    · exact h.elim
  · split at h
    · rename_i c
      obtain ⟨p, xs, rfl, hp, rx⟩ := rp_tuple ra
      obtain ⟨q, ys, rfl, hq, ry⟩ := rp_tuple rb
      refine .inr (.inr (.inr ⟨p, q, xs, ys, rfl, rfl, sqT_mono Fz_sub hp, sqT_mono Fz_sub hq, by rw [rx.length, ry.length]; exact c, fun z => ?_, fun _ z => ?_, fun _ _ l hl => new_tuple I (rx.append ry) h hl⟩))
      · refine flat_ok I h ?_
        have e : xs = [] := z
        subst e
        have e2 := rx.length
        have e3 := List.eq_nil_of_length_eq_zero e2.symm
        subst e3
        exact rb
      · refine flat_ok I h ?_
        have e : ys = [] := z
        subst e
        have e2 := ry.length
        have e3 := List.eq_nil_of_length_eq_zero e2.symm
        subst e3
        rw [List.append_nil]
        exact ra
    · exact h.elim
  · exact h.elim
theorem de_add {a b : Expr} {pos : Pos} {Fa Fb : FE} (hK : X.K = G.K) (ha : PE X a (tE G Fa)) (hb : PE X b (tE G Fb)) : PE X (.BinOp a .Add b pos) (tE G (fBin gAdd Fa Fb)) := de_bin op_addA (by rw [hK]; exact opAdd) ha hb

/-! ### slices -/
abbrev FO := Lcs → Sto → Res (Option Int)
def kO (G : Gx) (w : Wd) (e : Lcs) (σ : L2.St) (H : Hp) (Q : Option Int → Hp → Prop) : Option Int → Sto → Prop := fun b s' => ∀ w' H', IE G w' e s' σ H' → EExt w H w' H' → Q b H'
def tO (G : Gx) (F : FO) : L2.TO := fun σ H Q => ∃ w e s, IE G w e s σ H ∧ (F e s).holds (kO G w e σ H Q) (kX G w e σ H)
@[simp] def fNo : FO := fun _ s => .ok none s
@[simp] def fSome (Fa : FE) : FO := fun e s => (Fa e s).bind fun d s1 => match d with
  | .int i => .ok (some i) s1
  | _ => .bad
theorem PO_imp {a : Option Expr} {t t' : L2.TO} (h : PO X a t) (k : ∀ σ H Q, t' σ H Q → t σ H Q) : PO X a t' := ⟨fun pins s σ H Q I q => h.run pins s σ H Q I (k _ _ _ q)⟩
theorem do_none : PO X none (tO G fNo) := PO_imp po_none fun σ H Q ⟨w, e, s, I, h⟩ => h w H I .refl
theorem do_some {a : Expr} {Fa : FE} (ha : PE X a (tE G Fa)) : PO X (some a) (tO G (fSome Fa)) := PO_imp (po_some ha) fun σ H Q ⟨w, e, s, I, h⟩ => by
  refine ⟨w, e, s, I, holds_imp (holds_bind h) fun d s1 h1 w1 x H1 I1 x1 r1 => ?_⟩
  split at h1
  · rename_i i
    exact ⟨i, rp_int r1, h1 w1 H1 I1 x1⟩
  · exact h1.elim
def cutD (xs : List Dat) (lo hi : Option Int) : List Dat := (xs.drop (HT.sIx xs.length 0 lo)).take (HT.sIx xs.length xs.length hi - HT.sIx xs.length 0 lo)
@[simp] def gSl : Dat → Option Int → Option Int → Sto → Res Dat := fun d lo hi s => match d with
  | .list ds => .ok (.list (cutD ds lo hi)) s
  | .tuple ds => .ok (.tuple (cutD ds lo hi)) s
  | .str z => if z.length ≤ sizeLine then .ok (.str (cutS z lo hi)) s else .bad
  | .dict [(.none, .list ds)] => .ok (.list (cutD ds lo hi)) s
  | _ => .bad
@[simp] def fSl (Fa : FE) (Fl Fh : FO) : FE := fun e s => (Fa e s).bind fun d s1 => (Fl e s1).bind fun l s2 => (Fh e s2).bind fun u s3 => gSl d l u s3
def rSl (K : PySem.W.Frag) : V → Option Int → Option Int → Hp → VK → Prop := fun x lo hi H Q => rSlL K x lo hi H Q ∨ rSlA K x lo hi H Q ∨ rSlS x lo hi H Q
theorem sl_all : SlR X (rSl X.K) := sl_list.or (sl_tupA.or sl_str)
theorem cut_rp {K as F} {ds : List Dat} {vs : List V} (lo hi : Option Int) (r : RpL K as F ds vs) : RpL K as F (cutD ds lo hi) (cutV vs lo hi) := by
  unfold cutD cutV
  rw [r.length]
  exact (r.drop _).take _
theorem rpl_ints {K as F} : ∀ ns : List Int, RpL K as F (ns.map PyData.int) (ns.map V.int)
  | [] => RpL.nil
  | n :: ns => RpL.cons rp_i (rpl_ints ns)
theorem cut_whole {xs : List Dat} {lo hi : Option Int} (h1 : HT.sIx xs.length 0 lo = 0) (h2 : HT.sIx xs.length xs.length hi = xs.length) : cutD xs lo hi = xs := by
  unfold cutD
  rw [h1, h2]
  simp
theorem opSl {w : Wd} {e : Lcs} {s : Sto} {σ : L2.St} {H : Hp} {Q : VK} {d : Dat} {x : V} {lo hi : Option Int} (I : IE G w e s σ H) (r : Rp G.K w.as (Fz w H) d x) (h : (gSl d lo hi s).holds (kE G w e σ H Q) (kX G w e σ H)) : rSl G.K x lo hi H Q := by
  unfold gSl at h
  split at h
  · obtain ⟨p, xs, rfl, hp, rx⟩ := rp_list r
    exact .inl ⟨p, xs, rfl, .inl (.inl (Fz_sub _ _ hp)), fun l hl => new_list I (cut_rp lo hi rx) h hl⟩
  · rename_i ds
    obtain ⟨p, xs, rfl, hp, rx⟩ := rp_tuple r
    refine .inr (.inl ⟨p, xs, rfl, sqT_mono Fz_sub hp, fun z => ?_, fun _ l hl => new_tuple I (cut_rp lo hi rx) h hl⟩)
    refine flat_ok I h ?_
    rw [rx.length] at z
    rw [cut_whole z.1 z.2]
    exact r
  · split at h
    · rename_i c
      exact .inr (.inr ⟨_, rp_str r, c, flat_ok I h rp_s⟩)
    · exact h.elim
  · rename_i ds
    have r' : ∃ (a : Addr) (ns : List Int), x = .ref a ∧ ds = ns.map PyData.int ∧ SqL G.K (Fz w H) a (ns.map V.int) := by simpa [Rp] using r
    obtain ⟨p, ns, rfl, rfl, q⟩ := r'
    exact .inl ⟨p, _, rfl, sqL_mono Fz_sub q, fun l hl => new_list I (cut_rp lo hi (rpl_ints ns)) h hl⟩
  · exact h.elim
theorem de_slice {a : Expr} {lo hi : Option Expr} {pos p2 : Pos} {Fa : FE} {Fl Fh : FO} (hK : X.K = G.K) (ha : PE X a (tE G Fa)) (hl : PO X lo (tO G Fl)) (hh : PO X hi (tO G Fh)) : PE X (.Subscript a (.Slice lo hi none p2) pos) (tE G (fSl Fa Fl Fh)) :=
  PE_imp (pe_slice sl_all ha hl hh) fun σ H Q ⟨w, e, s, I, h⟩ => by
    refine ⟨w, e, s, I, holds_imp (holds_bind h) fun d s1 h1 w1 x H1 I1 x1 r1 => ?_⟩
    refine ⟨w1, e, s1, I1, holds_imp (holds_bind h1) fun l s2 h2 w2 H2 I2 x2 => ?_⟩
    refine ⟨w2, e, s2, I2, holds_imp (holds_bind h2) fun u s3 h3 w3 H3 I3 x3 => ?_⟩
    rw [hK]
    exact opSl I3 ((x2.trans x3).rp r1) (holds_imp h3 fun d s4 h4 => kE_ext (x1.trans (x2.trans x3)) h4)

/-! ### calls of built-ins -/
@[simp] def fCall (g : List Dat → Sto → Res Dat) (Fs : FA) : FE := fun e s => (Fs e s).bind fun ds s1 => g ds s1
theorem de_callB {x : Str} {p pos : Pos} {a : Expr} {es : List Expr} {id : String} {r : List V → Hp → VK → Prop} {g : List Dat → Sto → Res Dat} {Fs : FA} (hc : CallR X (.builtin id) r) (hg : CallD G r g) (hm : X.mg x = none) (ha : PA X (a :: es) (tA G Fs)) (hgl : Gl X x := by rfl)
    (hv : bootBuiltins x = some (.builtin id) := by decide +kernel) (hn : x ≠ "__name__" := by decide) (hdb : (x == ("__debug__" : Str)) = false := by decide)
    (he : starEach (a :: es) X.env = (false, eval a X.env) :: starEach es X.env := by rfl) (hpl : (backTo pos (starEach es X.env)).any (·.1) = false := by rfl) : PE X (.Call (.Name x p) (a :: es) [] pos) (tE G (fCall g Fs)) :=
  PE_imp (pe_callB hc hgl hm hv ha hn hdb he hpl) fun σ H Q ⟨w, e, s, I, h⟩ => ⟨w, e, s, I, holds_imp (holds_bind h) fun ds s1 h1 w1 vs H1 I1 x1 r1 => hg w1 e s1 σ H1 vs ds Q I1 r1 (holds_imp h1 fun d s2 h2 => kE_ext x1 h2)⟩
theorem de_callTy {x : Str} {p pos : Pos} {a : Expr} {es : List Expr} {id : String} {r : List V → Hp → VK → Prop} {g : List Dat → Sto → Res Dat} {Fs : FA} (hc : CallR X (.type id) r) (hg : CallD G r g) (hm : X.mg x = none) (ha : PA X (a :: es) (tA G Fs)) (hgl : Gl X x := by rfl)
    (hv : bootBuiltins x = some (.type id) := by decide +kernel) (hn : x ≠ "__name__" := by decide) (hdb : (x == ("__debug__" : Str)) = false := by decide)
    (he : starEach (a :: es) X.env = (false, eval a X.env) :: starEach es X.env := by rfl) (hpl : (backTo pos (starEach es X.env)).any (·.1) = false := by rfl) : PE X (.Call (.Name x p) (a :: es) [] pos) (tE G (fCall g Fs)) :=
  PE_imp (pe_callTy hc hgl hm hv ha hn hdb he hpl) fun σ H Q ⟨w, e, s, I, h⟩ => ⟨w, e, s, I, holds_imp (holds_bind h) fun ds s1 h1 w1 vs H1 I1 x1 r1 => hg w1 e s1 σ H1 vs ds Q I1 r1 (holds_imp h1 fun d s2 h2 => kE_ext x1 h2)⟩
theorem rpl1 {K as F} {d : Dat} {vs : List V} (r : RpL K as F [d] vs) : ∃ v, vs = [v] ∧ Rp K as F d v := by
  cases vs with
  | nil => simp [RpL] at r
  | cons v t =>
    cases t with
    | nil => exact ⟨v, rfl, by simpa [RpL] using r⟩
    | cons _ _ => simp [RpL] at r
theorem rpl2 {K as F} {d d2 : Dat} {vs : List V} (r : RpL K as F [d, d2] vs) : ∃ v v2, vs = [v, v2] ∧ Rp K as F d v ∧ Rp K as F d2 v2 := by
  cases vs with
  | nil => simp [RpL] at r
  | cons v t =>
    simp only [RpL] at r
    obtain ⟨v2, rfl, r2⟩ := rpl1 r.2
    exact ⟨v, v2, rfl, r.1, r2⟩
/-- abs -/
@[simp] def gAbs : List Dat → Sto → Res Dat := fun ds s => match ds with
  | [.int i] => .ok (.int (if i < 0 then -i else i)) s
  | _ => .bad
theorem cdAbs : CallD G (fun xs H Q => ∃ i, xs = [.int i] ∧ Q (.int (if i < 0 then -i else i)) H) gAbs := by
  intro w e s σ H xs ds Q I r h
  unfold gAbs at h
  split at h
  · obtain ⟨v, rfl, r1⟩ := rpl1 r
    exact ⟨_, by rw [rp_int r1], flat_ok I h rp_i⟩
  · exact h.elim
theorem de_abs {p pos : Pos} {a : Expr} {es : List Expr} {Fs : FA} (hm : X.mg "abs" = none) (ha : PA X (a :: es) (tA G Fs)) (hgl : Gl X "abs" := by rfl) (he : starEach (a :: es) X.env = (false, eval a X.env) :: starEach es X.env := by rfl) (hpl : (backTo pos (starEach es X.env)).any (·.1) = false := by rfl) :
    PE X (.Call (.Name "abs" p) (a :: es) [] pos) (tE G (fCall gAbs Fs)) := de_callB call_abs cdAbs hm ha (hgl := hgl) (he := he) (hpl := hpl)
/-- int(n), int(flag) -/
@[simp] def gInt : List Dat → Sto → Res Dat := fun ds s => match ds with
  | [.int i] => .ok (.int i) s
  | [.bool k] => .ok (.int (if k then 1 else 0)) s
  | _ => .bad
theorem cdInt : CallD G (fun xs H Q => (∃ i, xs = [V.int i] ∧ Q (.int i) H) ∨ ∃ k, xs = [V.bl k] ∧ Q (.int (if k then 1 else 0)) H) gInt := by
  intro w e s σ H xs ds Q I r h
  unfold gInt at h
  split at h
  · obtain ⟨v, rfl, r1⟩ := rpl1 r
    exact .inl ⟨_, by rw [rp_int r1], flat_ok I h rp_i⟩
  · obtain ⟨v, rfl, r1⟩ := rpl1 r
    exact .inr ⟨_, by rw [rp_bool r1], flat_ok I h rp_i⟩
  · exact h.elim
theorem de_intOf {p pos : Pos} {a : Expr} {es : List Expr} {Fs : FA} (hm : X.mg "int" = none) (ha : PA X (a :: es) (tA G Fs)) (hgl : Gl X "int" := by rfl) (he : starEach (a :: es) X.env = (false, eval a X.env) :: starEach es X.env := by rfl) (hpl : (backTo pos (starEach es X.env)).any (·.1) = false := by rfl) :
    PE X (.Call (.Name "int" p) (a :: es) [] pos) (tE G (fCall gInt Fs)) := de_callTy call_int1 cdInt hm ha (hgl := hgl) (he := he) (hpl := hpl)
/-- len -/
@[simp] def gLen : List Dat → Sto → Res Dat := fun ds s => match ds with
  | [.list xs] => .ok (.int xs.length) s
  | [.tuple xs] => .ok (.int xs.length) s
  | [.str z] => if z.length ≤ sizeLine then .ok (.int z.length) s else .bad
  | _ => .bad
theorem cdLen : CallD G (fun xs H Q => ∃ x n, xs = [x] ∧ LenV G.K x H n ∧ Q (.int n) H) gLen := by
  intro w e s σ H xs ds Q I r h
  unfold gLen at h
  split at h
  · obtain ⟨v, rfl, r1⟩ := rpl1 r
    obtain ⟨p, ys, rfl, hp, rx⟩ := rp_list r1
    refine ⟨.ref p, _, rfl, .inl ⟨ys, .inl (.inl (Fz_sub _ _ hp)), rfl⟩, ?_⟩
    rw [rx.length]
    exact flat_ok I h rp_i
  · obtain ⟨v, rfl, r1⟩ := rpl1 r
    obtain ⟨p, ys, rfl, hp, rx⟩ := rp_tuple r1
    refine ⟨.ref p, _, rfl, .inr ⟨ys, sqT_mono Fz_sub hp, rfl⟩, ?_⟩
    rw [rx.length]
    exact flat_ok I h rp_i
  · split at h
    · rename_i c
      obtain ⟨v, rfl, r1⟩ := rpl1 r
      rw [rp_str r1]
      exact ⟨_, _, rfl, ⟨c, rfl⟩, flat_ok I h rp_i⟩
    · exact h.elim
  · exact h.elim
theorem de_len {p pos : Pos} {a : Expr} {es : List Expr} {Fs : FA} (hK : X.K = G.K) (hm : X.mg "len" = none) (ha : PA X (a :: es) (tA G Fs)) (hgl : Gl X "len" := by rfl) (he : starEach (a :: es) X.env = (false, eval a X.env) :: starEach es X.env := by rfl) (hpl : (backTo pos (starEach es X.env)).any (·.1) = false := by rfl) :
    PE X (.Call (.Name "len" p) (a :: es) [] pos) (tE G (fCall gLen Fs)) := de_callB call_len (by rw [hK]; exact cdLen) hm ha (hgl := hgl) (he := he) (hpl := hpl)
/-- tuple(xs), list(xs) -/
@[simp] def gTupOf : List Dat → Sto → Res Dat := fun ds s => match ds with
  | [.list xs] => .ok (.tuple xs) s
  | [.tuple xs] => .ok (.tuple xs) s
  | _ => .bad
theorem cdTup : CallD G (fun xs H Q => ∃ p ys, xs = [V.ref p] ∧ ((SqL G.K H p ys ∧ ∀ l, H l = none → Q (.ref l) (upd H l (.tup ys))) ∨ (SqT G.K H p ys ∧ Q (.ref p) H))) gTupOf := by
  intro w e s σ H xs ds Q I r h
  unfold gTupOf at h
  split at h
  · obtain ⟨v, rfl, r1⟩ := rpl1 r
    obtain ⟨p, ys, rfl, hp, rx⟩ := rp_list r1
    exact ⟨p, ys, rfl, .inl ⟨.inl (.inl (Fz_sub _ _ hp)), fun l hl => new_tuple I rx h hl⟩⟩
  · obtain ⟨v, rfl, r1⟩ := rpl1 r
    obtain ⟨p, ys, rfl, hp, rx⟩ := rp_tuple r1
    exact ⟨p, ys, rfl, .inr ⟨sqT_mono Fz_sub hp, flat_ok I h r1⟩⟩
  · exact h.elim
theorem de_tupOf {p pos : Pos} {a : Expr} {es : List Expr} {Fs : FA} (hK : X.K = G.K) (hm : X.mg "tuple" = none) (ha : PA X (a :: es) (tA G Fs)) (hgl : Gl X "tuple" := by rfl) (he : starEach (a :: es) X.env = (false, eval a X.env) :: starEach es X.env := by rfl) (hpl : (backTo pos (starEach es X.env)).any (·.1) = false := by rfl) :
    PE X (.Call (.Name "tuple" p) (a :: es) [] pos) (tE G (fCall gTupOf Fs)) := de_callTy call_tuple_of (by rw [hK]; exact cdTup) hm ha (hgl := hgl) (he := he) (hpl := hpl)
@[simp] def gLstOf : List Dat → Sto → Res Dat := fun ds s => match ds with
  | [.list xs] => .ok (.list xs) s
  | [.tuple xs] => .ok (.list xs) s
  | _ => .bad
theorem cdLst : CallD G (fun xs H Q => ∃ p ys, xs = [V.ref p] ∧ (SqL G.K H p ys ∨ SqT G.K H p ys) ∧ ∀ l, H l = none → Q (.ref l) (upd H l (.lst ys))) gLstOf := by
  intro w e s σ H xs ds Q I r h
  unfold gLstOf at h
  split at h
  · obtain ⟨v, rfl, r1⟩ := rpl1 r
    obtain ⟨p, ys, rfl, hp, rx⟩ := rp_list r1
    exact ⟨p, ys, rfl, .inl (.inl (.inl (Fz_sub _ _ hp))), fun l hl => new_list I rx h hl⟩
  · obtain ⟨v, rfl, r1⟩ := rpl1 r
    obtain ⟨p, ys, rfl, hp, rx⟩ := rp_tuple r1
    exact ⟨p, ys, rfl, .inr (sqT_mono Fz_sub hp), fun l hl => new_list I rx h hl⟩
  · exact h.elim
theorem de_lstOf {p pos : Pos} {a : Expr} {es : List Expr} {Fs : FA} (hK : X.K = G.K) (hm : X.mg "list" = none) (ha : PA X (a :: es) (tA G Fs)) (hgl : Gl X "list" := by rfl) (he : starEach (a :: es) X.env = (false, eval a X.env) :: starEach es X.env := by rfl) (hpl : (backTo pos (starEach es X.env)).any (·.1) = false := by rfl) :
    PE X (.Call (.Name "list" p) (a :: es) [] pos) (tE G (fCall gLstOf Fs)) := de_callTy call_list_of (by rw [hK]; exact cdLst) hm ha (hgl := hgl) (he := he) (hpl := hpl)
/-- max, min of a list of ints; all, any of a list of truth values; sum -/
@[simp] def ints? : List Dat → Option (List Int)
  | [] => some []
  | .int i :: r => (ints? r).map (i :: ·)
  | _ :: _ => none
@[simp] def bools? : List Dat → Option (List Bool)
  | [] => some []
  | .bool i :: r => (bools? r).map (i :: ·)
  | _ :: _ => none
theorem ints_vals {K as F} : ∀ {ds : List Dat} {ns : List Int} {vs : List V}, ints? ds = some ns → RpL K as F ds vs → vs = ns.map V.int
  | [], _, [], h, _ => by simp [ints?] at h; subst h; rfl
  | d :: ds, ns, v :: vs, h, r => by
    simp only [RpL] at r
    cases d with
    | int i =>
      simp only [ints?, Option.map_eq_some_iff] at h
      obtain ⟨m, hm, rfl⟩ := h
      rw [rp_int r.1, ints_vals hm r.2]; rfl
    | _ => simp [ints?] at h
  | [], _, _ :: _, _, h => by simp [RpL] at h
  | _ :: _, _, [], _, h => by simp [RpL] at h
theorem bools_vals {K as F} : ∀ {ds : List Dat} {ns : List Bool} {vs : List V}, bools? ds = some ns → RpL K as F ds vs → vs = ns.map V.bl
  | [], _, [], h, _ => by simp [bools?] at h; subst h; rfl
  | d :: ds, ns, v :: vs, h, r => by
    simp only [RpL] at r
    cases d with
    | bool i =>
      simp only [bools?, Option.map_eq_some_iff] at h
      obtain ⟨m, hm, rfl⟩ := h
      rw [rp_bool r.1, bools_vals hm r.2]; rfl
    | _ => simp [bools?] at h
  | [], _, _ :: _, _, h => by simp [RpL] at h
  | _ :: _, _, [], _, h => by simp [RpL] at h
def maxL : List Int → Int
  | [] => 0
  | [a] => a
  | a :: b :: r => if a < maxL (b :: r) then maxL (b :: r) else a
def minL : List Int → Int
  | [] => 0
  | [a] => a
  | a :: b :: r => if minL (b :: r) < a then minL (b :: r) else a
theorem maxL_is : ∀ {ns : List Int} {m : Int}, m ∈ ns → (∀ y, y ∈ ns → y ≤ m) → maxL ns = m
  | [a], m, h, _ => by simp at h; simp [maxL, h]
  | a :: b :: r, m, h, k => by
    unfold maxL
    have ha := k a (by simp)
    by_cases e : m ∈ b :: r
    · have ih := maxL_is (ns := b :: r) e fun y hy => k y (List.mem_cons_of_mem _ hy)
      rw [ih]; split <;> omega
    · have em : m = a := by
        rcases List.mem_cons.mp h with q | q
        · exact q
        · exact absurd q e
      subst em
      split
      · rename_i z
        have : maxL (b :: r) ∈ b :: r := by
          have go : ∀ (l : List Int) (c : Int), maxL (c :: l) ∈ c :: l := by
            intro l
            induction l with
            | nil => intro c; simp [maxL]
            | cons d l ih =>
              intro c
              unfold maxL
              split
              · exact List.mem_cons_of_mem _ (ih d)
              · simp
          exact go r b
        have := k _ (List.mem_cons_of_mem _ this)
        omega
      · rfl
theorem minL_is : ∀ {ns : List Int} {m : Int}, m ∈ ns → (∀ y, y ∈ ns → m ≤ y) → minL ns = m
  | [a], m, h, _ => by simp at h; simp [minL, h]
  | a :: b :: r, m, h, k => by
    unfold minL
    have ha := k a (by simp)
    by_cases e : m ∈ b :: r
    · have ih := minL_is (ns := b :: r) e fun y hy => k y (List.mem_cons_of_mem _ hy)
      rw [ih]; split <;> omega
    · have em : m = a := by
        rcases List.mem_cons.mp h with q | q
        · exact q
        · exact absurd q e
      subst em
      split
      · rename_i z
        have : minL (b :: r) ∈ b :: r := by
          have go : ∀ (l : List Int) (c : Int), minL (c :: l) ∈ c :: l := by
            intro l
            induction l with
            | nil => intro c; simp [minL]
            | cons d l ih =>
              intro c
              unfold minL
              split
              · exact List.mem_cons_of_mem _ (ih d)
              · simp
          exact go r b
        have := k _ (List.mem_cons_of_mem _ this)
        omega
      · rfl
@[simp] def gMax : List Dat → Sto → Res Dat := fun ds s => match ds with
  | [.list xs] => match ints? xs with
    | some ns => if 0 < ns.length then .ok (.int (maxL ns)) s else .bad
    | none => .bad
  | _ => .bad
@[simp] def gMin : List Dat → Sto → Res Dat := fun ds s => match ds with
  | [.list xs] => match ints? xs with
    | some ns => if 0 < ns.length then .ok (.int (minL ns)) s else .bad
    | none => .bad
  | _ => .bad
@[simp] def gSum : List Dat → Sto → Res Dat := fun ds s => match ds with
  | [.list xs] => match ints? xs with
    | some ns => .ok (.int ns.sum) s
    | none => .bad
  | [.tuple xs] => match ints? xs with
    | some ns => .ok (.int ns.sum) s
    | none => .bad
  | _ => .bad
@[simp] def gAll : List Dat → Sto → Res Dat := fun ds s => match ds with
  | [.list xs] => match bools? xs with
    | some ns => .ok (.bool (ns.all id)) s
    | none => .bad
  | _ => .bad
@[simp] def gAny : List Dat → Sto → Res Dat := fun ds s => match ds with
  | [.list xs] => match bools? xs with
    | some ns => .ok (.bool (ns.any id)) s
    | none => .bad
  | _ => .bad
theorem cdMax : CallD G (rMax G.K) gMax := by
  intro w e s σ H xs ds Q I r h
  unfold gMax at h
  split at h
  · split at h
    · rename_i ns hns
      split at h
      · rename_i c
        obtain ⟨v, rfl, r1⟩ := rpl1 r
        obtain ⟨p, ys, rfl, hp, rx⟩ := rp_list r1
        have e := ints_vals hns rx
        subst e
        exact ⟨p, ns, rfl, .inl (.inl (Fz_sub _ _ hp)), c, fun m hm hle => by
          have := flat_ok I h rp_i
          rw [maxL_is hm hle] at this
          exact this⟩
      · exact h.elim
    · exact h.elim
  · exact h.elim
theorem cdMin : CallD G (rMin G.K) gMin := by
  intro w e s σ H xs ds Q I r h
  unfold gMin at h
  split at h
  · split at h
    · rename_i ns hns
      split at h
      · rename_i c
        obtain ⟨v, rfl, r1⟩ := rpl1 r
        obtain ⟨p, ys, rfl, hp, rx⟩ := rp_list r1
        have e := ints_vals hns rx
        subst e
        exact ⟨p, ns, rfl, .inl (.inl (Fz_sub _ _ hp)), c, fun m hm hle => by
          have := flat_ok I h rp_i
          rw [minL_is hm hle] at this
          exact this⟩
      · exact h.elim
    · exact h.elim
  · exact h.elim
theorem cdAll : CallD G (rAll G.K) gAll := by
  intro w e s σ H xs ds Q I r h
  unfold gAll at h
  split at h
  · split at h
    · rename_i ns hns
      obtain ⟨v, rfl, r1⟩ := rpl1 r
      obtain ⟨p, ys, rfl, hp, rx⟩ := rp_list r1
      have e := bools_vals hns rx
      subst e
      exact ⟨p, ns, rfl, .inl (.inl (Fz_sub _ _ hp)), flat_ok I h rp_b⟩
    · exact h.elim
  · exact h.elim
theorem cdAny : CallD G (rAny G.K) gAny := by
  intro w e s σ H xs ds Q I r h
  unfold gAny at h
  split at h
  · split at h
    · rename_i ns hns
      obtain ⟨v, rfl, r1⟩ := rpl1 r
      obtain ⟨p, ys, rfl, hp, rx⟩ := rp_list r1
      have e := bools_vals hns rx
      subst e
      exact ⟨p, ns, rfl, .inl (.inl (Fz_sub _ _ hp)), flat_ok I h rp_b⟩
    · exact h.elim
  · exact h.elim
section
variable {p pos : Pos} {a : Expr} {es : List Expr} {Fs : FA}
theorem de_max (hc : X.calm = true) (hK : X.K = G.K) (hm : X.mg "max" = none) (ha : PA X (a :: es) (tA G Fs)) (hgl : Gl X "max" := by rfl) (he : starEach (a :: es) X.env = (false, eval a X.env) :: starEach es X.env := by rfl) (hpl : (backTo pos (starEach es X.env)).any (·.1) = false := by rfl) :
    PE X (.Call (.Name "max" p) (a :: es) [] pos) (tE G (fCall gMax Fs)) := de_callB (cr_max hc) (by rw [hK]; exact cdMax) hm ha (hgl := hgl) (he := he) (hpl := hpl)
theorem de_min (hc : X.calm = true) (hK : X.K = G.K) (hm : X.mg "min" = none) (ha : PA X (a :: es) (tA G Fs)) (hgl : Gl X "min" := by rfl) (he : starEach (a :: es) X.env = (false, eval a X.env) :: starEach es X.env := by rfl) (hpl : (backTo pos (starEach es X.env)).any (·.1) = false := by rfl) :
    PE X (.Call (.Name "min" p) (a :: es) [] pos) (tE G (fCall gMin Fs)) := de_callB (cr_min hc) (by rw [hK]; exact cdMin) hm ha (hgl := hgl) (he := he) (hpl := hpl)
theorem de_all (hc : X.calm = true) (hK : X.K = G.K) (hm : X.mg "all" = none) (ha : PA X (a :: es) (tA G Fs)) (hgl : Gl X "all" := by rfl) (he : starEach (a :: es) X.env = (false, eval a X.env) :: starEach es X.env := by rfl) (hpl : (backTo pos (starEach es X.env)).any (·.1) = false := by rfl) :
    PE X (.Call (.Name "all" p) (a :: es) [] pos) (tE G (fCall gAll Fs)) := de_callB (cr_all hc) (by rw [hK]; exact cdAll) hm ha (hgl := hgl) (he := he) (hpl := hpl)
theorem de_any (hc : X.calm = true) (hK : X.K = G.K) (hm : X.mg "any" = none) (ha : PA X (a :: es) (tA G Fs)) (hgl : Gl X "any" := by rfl) (he : starEach (a :: es) X.env = (false, eval a X.env) :: starEach es X.env := by rfl) (hpl : (backTo pos (starEach es X.env)).any (·.1) = false := by rfl) :
    PE X (.Call (.Name "any" p) (a :: es) [] pos) (tE G (fCall gAny Fs)) := de_callB (cr_any hc) (by rw [hK]; exact cdAny) hm ha (hgl := hgl) (he := he) (hpl := hpl)
end
end
end DL

namespace DL
open PySem PySem.Spec PyProof.Rows L2
section
variable {X : Cx} {G : Gx}

/-! ### how the world goes on -/
section
variable {w w' : Wd} {e e2 : Lcs} {s s' : Sto} {σ σ2 : L2.St} {H H' : Hp}
/-- the locals stand, where the rest went on -/
theorem IE.re (I : IE G w e s σ H) (x : EExt w H w' H') (J : IE G w' e2 s' σ2 H') : IE G w' e s' σ H' := by
  refine ⟨I.len, fun i d h => ?_, fun i ds h => ?_, I.inj, J.slen, J.cells, J.nd, J.dis, J.beg, J.o0, J.there, J.keep, J.cfresh⟩
  · obtain ⟨v, h1, h2⟩ := I.slot i d h
    exact ⟨v, h1, x.rp h2⟩
  · obtain ⟨p, vs, h1, h2, h3, h4, h5, h6⟩ := I.own i ds h
    exact ⟨p, vs, h1, by rw [x.ow]; exact h2, h3, h4, by rw [x.own p h2]; exact h5, CR.mono x.beg x.same h6⟩
theorem IE.fresh0 (I : IE G w e s σ H) {p : Addr} (hp : H p = none) : G.H0 p = none := by
  cases q : G.H0 p with
  | none => rfl
  | some o =>
    by_cases h : p ∈ G.as0
    · exact absurd hp (I.cellThere (I.beg.mem h))
    · have := I.keep p o q h
      rw [hp] at this; cases this
theorem IE.freshO (I : IE G w e s σ H) {p : Addr} (hp : H p = none) : ¬ w.ow p := fun h => I.there p h hp
theorem IE.freshO0 (I : IE G w e s σ H) {p : Addr} (hp : H p = none) : ¬ G.O0 p := fun h => I.freshO hp (I.o0 p h)
theorem IE.freshA (I : IE G w e s σ H) {p : Addr} (hp : H p = none) : p ∉ w.as := fun h => I.cellThere h hp
/-- no local's own list stands at p -/
def Lone (e : Lcs) (σ : L2.St) (p : Addr) : Prop := ∀ (i : Nat) ds, e[i]? = some (.ow ds) → σ[i]? ≠ some (some (.ref p))
theorem IE.lone (I : IE G w e s σ H) {p : Addr} (hp : H p = none) : Lone e σ p := fun i ds h h2 => by
  obtain ⟨q, vs, h1, _, _, _, h5, _⟩ := I.own i ds h
  rw [h2] at h1; cases h1
  rw [hp] at h5; cases h5
/-- one more place of one's own -/
def Wd.plus (w : Wd) (p : Addr) : Wd := ⟨w.as, fun a => w.ow a ∨ a = p⟩
theorem Fz_plus {p : Addr} {o : HO} (hp : H p = none) : Fz (w.plus p) (upd H p o) = Fz w H := by
  funext a
  unfold Fz
  by_cases ha : a = p
  · subst ha
    rw [if_pos (.inr (.inr rfl))]
    split
    · rfl
    · rw [hp]
  · by_cases h : a ∈ w.as ∨ w.ow a
    · rw [if_pos h, if_pos (h.elim .inl fun q => .inr (.inl q))]
    · rw [if_neg h, if_neg (by rintro (q | q | q); exact h (.inl q); exact h (.inr q); exact ha q), upd_ne ha]
theorem IE.plus (I : IE G w e s σ H) {p : Addr} {o : HO} (hp : H p = none) : IE G (w.plus p) e s σ (upd H p o) := by
  have ef : Fz (w.plus p) (upd H p o) = Fz w H := Fz_plus hp
  have hx : ∀ {a : Addr} {u : HO}, H a = some u → upd H p o a = some u := fun {a u} h => by rw [upd_ne (ne_of_none h hp)]; exact h
  refine ⟨I.len, fun i d h => ?_, fun i ds h => ?_, I.inj, I.slen, fun n ds h => ?_, I.nd, fun a ha => ?_, I.beg, fun a ha => .inl (I.o0 a ha), fun a h => ?_, fun a u h h' => hx (I.keep a u h h'), I.cfresh⟩
  · obtain ⟨v, h1, h2⟩ := I.slot i d h
    exact ⟨v, h1, by rw [ef]; exact h2⟩
  · obtain ⟨q, vs, h1, h2, h3, h4, h5, h6⟩ := I.own i ds h
    exact ⟨q, vs, h1, .inl h2, h3, h4, hx h5, by rw [ef]; exact h6⟩
  · obtain ⟨a, vs, h1, h2, h3⟩ := I.cells n ds h
    exact ⟨a, vs, h1, hx h2, by rw [ef]; exact h3⟩
  · rintro (q | q)
    · exact I.dis a ha q
    · subst q
      exact I.freshA hp ha
  · rcases h with h | h
    · cases z : H a with
      | none => exact absurd z (I.there a h)
      | some u => rw [hx z]; simp
    · subst h; rw [upd_same]; simp
theorem plus_f {p : Addr} {o : HO} (hp : H p = none) : FExt w H (w.plus p) (upd H p o) := ⟨.refl _, by rw [Fz_plus hp]; exact .refl _⟩
theorem Fz_own {p : Addr} {o : HO} (hp : w.ow p) : Fz w (upd H p o) = Fz w H := by
  funext a
  unfold Fz
  by_cases h : a ∈ w.as ∨ w.ow a
  · rw [if_pos h, if_pos h]
  · rw [if_neg h, if_neg h]
    exact upd_ne fun z => by subst z; exact h (.inr hp)
/-- a place of one's own that no local holds is written -/
theorem IE.write (I : IE G w e s σ H) {p : Addr} {o : HO} (hp : w.ow p) (h0 : G.H0 p = none) (hl : Lone e σ p) : IE G w e s σ (upd H p o) := by
  have ef : Fz w (upd H p o) = Fz w H := Fz_own hp
  refine ⟨I.len, fun i d h => ?_, fun i ds h => ?_, I.inj, I.slen, fun n ds h => ?_, I.nd, I.dis, I.beg, I.o0, fun a h => ?_, fun a u h h' => ?_, I.cfresh⟩
  · obtain ⟨v, h1, h2⟩ := I.slot i d h
    exact ⟨v, h1, by rw [ef]; exact h2⟩
  · obtain ⟨q, vs, h1, h2, h3, h4, h5, h6⟩ := I.own i ds h
    have : q ≠ p := fun z => by subst z; exact hl i ds h h1
    exact ⟨q, vs, h1, h2, h3, h4, by rw [upd_ne this]; exact h5, by rw [ef]; exact h6⟩
  · obtain ⟨a, vs, h1, h2, h3⟩ := I.cells n ds h
    have : a ≠ p := fun z => by subst z; exact I.dis a (List.mem_of_getElem? h1) hp
    exact ⟨a, vs, h1, by rw [upd_ne this]; exact h2, by rw [ef]; exact h3⟩
  · by_cases z : a = p
    · subst z; rw [upd_same]; simp
    · rw [upd_ne z]; exact I.there a h
  · have : a ≠ p := fun z => by subst z; rw [h0] at h; cases h
    rw [upd_ne this]
    exact I.keep a u h h'
theorem write_f {p : Addr} {o : HO} (hp : w.ow p) : FExt w H w (upd H p o) := ⟨.refl _, by rw [Fz_own hp]; exact .refl _⟩
/-- a local's own list is written -/
theorem IE.writeOwn (I : IE G w e s σ H) {p : Addr} {vs : HO} {i : Nat} {ds ds' : Cel} (he : e[i]? = some (.ow ds)) (hσ : σ[i]? = some (some (.ref p))) (r : CR G.xc G.K w.as (Fz w H) ds' vs) : IE G w (e.set i (.ow ds')) s σ (upd H p vs) := by
  obtain ⟨q0, vs0, g1, g2, g3, g4, g5, g6⟩ := I.own i ds he
  rw [hσ] at g1; cases g1
  have hi : i < e.length := (List.getElem?_eq_some_iff.mp he).1
  have ef : Fz w (upd H p vs) = Fz w H := Fz_own g2
  have inj' : ∀ (j : Nat) es, e[j]? = some (.ow es) → σ[j]? = some (some (.ref p)) → j = i := fun j es h1 h2 => I.inj j i p es ds h1 he h2 hσ
  refine ⟨by rw [List.length_set]; exact I.len, fun j d h => ?_, fun j es h => ?_, fun a b q es fs h1 h2 h3 h4 => ?_, I.slen, fun n es h => ?_, I.nd, I.dis, I.beg, I.o0, fun a h => ?_, fun a u h h' => ?_, I.cfresh⟩
  · by_cases z : i = j
    · subst z; rw [List.getElem?_set_self hi] at h; cases h
    · rw [List.getElem?_set_ne z] at h
      obtain ⟨v, h1, h2⟩ := I.slot j d h
      exact ⟨v, h1, by rw [ef]; exact h2⟩
  · by_cases z : i = j
    · subst z
      rw [List.getElem?_set_self hi] at h; cases h
      exact ⟨p, vs, hσ, g2, g3, g4, upd_same, by rw [ef]; exact r⟩
    · rw [List.getElem?_set_ne z] at h
      obtain ⟨q, us, h1, h2, h3, h4, h5, h6⟩ := I.own j es h
      have : q ≠ p := fun y => by subst y; exact z (inj' j es h h1).symm
      exact ⟨q, us, h1, h2, h3, h4, by rw [upd_ne this]; exact h5, by rw [ef]; exact h6⟩
  · have k : ∀ (j : Nat) es, (e.set i (.ow ds'))[j]? = some (.ow es) → ∃ fs, e[j]? = some (.ow fs) := fun j es h => by
      by_cases z : i = j
      · subst z; exact ⟨ds, he⟩
      · rw [List.getElem?_set_ne z] at h; exact ⟨es, h⟩
    obtain ⟨es', k1⟩ := k a es h1
    obtain ⟨fs', k2⟩ := k b fs h2
    exact I.inj a b q es' fs' k1 k2 h3 h4
  · obtain ⟨a, us, h1, h2, h3⟩ := I.cells n es h
    have : a ≠ p := fun z => by subst z; exact I.dis a (List.mem_of_getElem? h1) g2
    exact ⟨a, us, h1, by rw [upd_ne this]; exact h2, by rw [ef]; exact h3⟩
  · by_cases z : a = p
    · subst z; rw [upd_same]; simp
    · rw [upd_ne z]; exact I.there a h
  · have : a ≠ p := fun z => by subst z; rw [g3] at h; cases h
    rw [upd_ne this]
    exact I.keep a u h h'
/-- a local is stored -/
theorem IE.set (I : IE G w e s σ H) {i : Nat} {d : Dat} {v : V} (hi : i < e.length) (r : Rp G.K w.as (Fz w H) d v) : IE G w (e.set i (.fz d)) s (σ.set i (some v)) H := by
  have hσ : i < σ.length := by rw [← I.len]; exact hi
  have ne_of : ∀ {j : Nat} {es : Cel}, (e.set i (.fz d))[j]? = some (.ow es) → i ≠ j ∧ e[j]? = some (.ow es) := fun {j es} h => by
    by_cases z : i = j
    · subst z; rw [List.getElem?_set_self hi] at h; cases h
    · rw [List.getElem?_set_ne z] at h; exact ⟨z, h⟩
  refine ⟨by rw [List.length_set, List.length_set]; exact I.len, fun j d' h => ?_, fun j es h => ?_, fun a b q es fs h1 h2 h3 h4 => ?_, I.slen, I.cells, I.nd, I.dis, I.beg, I.o0, I.there, I.keep, I.cfresh⟩
  · by_cases z : i = j
    · subst z
      rw [List.getElem?_set_self hi] at h; cases h
      exact ⟨v, List.getElem?_set_self hσ, r⟩
    · rw [List.getElem?_set_ne z] at h ⊢
      exact I.slot j d' h
  · obtain ⟨z, h'⟩ := ne_of h
    rw [List.getElem?_set_ne z]
    exact I.own j es h'
  · obtain ⟨z1, k1⟩ := ne_of h1
    obtain ⟨z2, k2⟩ := ne_of h2
    rw [List.getElem?_set_ne z1] at h3
    rw [List.getElem?_set_ne z2] at h4
    exact I.inj a b q es fs k1 k2 h3 h4
/-- a list of one's own is given to a local -/
theorem IE.setOwn (I : IE G w e s σ H) {i : Nat} {ds : Cel} {p : Addr} {vs : HO} (hi : i < e.length) (hp : w.ow p) (h0 : G.H0 p = none) (h1 : ¬ G.O0 p) (hl : Lone e σ p) (hH : H p = some vs) (r : CR G.xc G.K w.as (Fz w H) ds vs) :
    IE G w (e.set i (.ow ds)) s (σ.set i (some (.ref p))) H := by
  have hσ : i < σ.length := by rw [← I.len]; exact hi
  refine ⟨by rw [List.length_set, List.length_set]; exact I.len, fun j d' h => ?_, fun j es h => ?_, fun a b q es fs k1 k2 k3 k4 => ?_, I.slen, I.cells, I.nd, I.dis, I.beg, I.o0, I.there, I.keep, I.cfresh⟩
  · by_cases z : i = j
    · subst z; rw [List.getElem?_set_self hi] at h; cases h
    · rw [List.getElem?_set_ne z] at h ⊢
      exact I.slot j d' h
  · by_cases z : i = j
    · subst z
      rw [List.getElem?_set_self hi] at h; cases h
      exact ⟨p, vs, List.getElem?_set_self hσ, hp, h0, h1, hH, r⟩
    · rw [List.getElem?_set_ne z] at h ⊢
      exact I.own j es h
  · by_cases za : i = a
    · subst za
      by_cases zb : i = b
      · exact zb
      · rw [List.getElem?_set_ne zb] at k2 k4
        rw [List.getElem?_set_self hσ] at k3
        cases k3
        exact absurd k4 (hl b fs k2)
    · by_cases zb : i = b
      · subst zb
        rw [List.getElem?_set_ne za] at k1 k3
        rw [List.getElem?_set_self hσ] at k4
        cases k4
        exact absurd k3 (hl a es k1)
      · rw [List.getElem?_set_ne za] at k1 k3
        rw [List.getElem?_set_ne zb] at k2 k4
        exact I.inj a b q es fs k1 k2 k3 k4
/-- a local's own list is no one's own any more -/
@[simp] def frz (i : Nat) (e : Lcs) : Lcs := match e[i]? with
  | some (.ow (.ls ds)) => e.set i (.fz (.list ds))
  | _ => e
open Classical in
theorem IE.freeze (I : IE G w e s σ H) (i : Nat) : ∃ w', IE G w' (frz i e) s σ H ∧ FExt w H w' H := by
  unfold frz
  split
  · rename_i ds he
    obtain ⟨p, vs, h1, h2, h3, h4, h5, h6⟩ := I.ownL he
    have hi : i < e.length := (List.getElem?_eq_some_iff.mp he).1
    have sm : Same (Fz w H) (Fz ⟨w.as, fun a => w.ow a ∧ a ≠ p⟩ H) := fun a o h => by
      obtain ⟨k1, k2, k3⟩ := Fz_get h
      exact Fz_of k1 k2 fun q => k3 q.1
    have pa : p ∉ w.as := fun h => I.dis p h h2
    refine ⟨⟨w.as, fun a => w.ow a ∧ a ≠ p⟩, ⟨by rw [List.length_set]; exact I.len, fun j d h => ?_, fun j es h => ?_, fun a b q es fs k1 k2 k3 k4 => ?_, I.slen, fun n es h => ?_, I.nd, fun a ha q => I.dis a ha q.1, I.beg, fun a ha => ⟨I.o0 a ha, fun z => by subst z; exact h4 ha⟩, fun a h => I.there a h.1, I.keep, I.cfresh⟩, ⟨.refl _, sm⟩⟩
    · by_cases z : i = j
      · subst z
        rw [List.getElem?_set_self hi] at h; cases h
        refine ⟨.ref p, h1, ?_⟩
        simp only [Rp]
        exact ⟨p, vs, rfl, Fz_of h5 pa fun q => q.2 rfl, RpL.mono (.refl _) sm _ _ h6⟩
      · rw [List.getElem?_set_ne z] at h
        obtain ⟨v, k1, k2⟩ := I.slot j d h
        exact ⟨v, k1, Rp.mono (.refl _) sm _ _ k2⟩
    · by_cases z : i = j
      · subst z; rw [List.getElem?_set_self hi] at h; cases h
      · rw [List.getElem?_set_ne z] at h
        obtain ⟨q, us, k1, k2, k3, k4, k5, k6⟩ := I.own j es h
        have : q ≠ p := fun y => by subst y; exact z (I.inj i j q _ es he h h1 k1)
        exact ⟨q, us, k1, ⟨k2, this⟩, k3, k4, k5, CR.mono (.refl _) sm k6⟩
    · have k : ∀ {j : Nat} {es}, (e.set i (.fz (.list ds)))[j]? = some (.ow es) → e[j]? = some (.ow es) := fun {j es} h => by
        by_cases z : i = j
        · subst z; rw [List.getElem?_set_self hi] at h; cases h
        · rw [List.getElem?_set_ne z] at h; exact h
      exact I.inj a b q es fs (k k1) (k k2) k3 k4
    · obtain ⟨a, us, k1, k2, k3⟩ := I.cells n es h
      exact ⟨a, us, k1, k2, CR.mono (.refl _) sm k3⟩
  · exact ⟨w, I, .refl⟩
end

/-! ### statements -/
/-- wanted behind a statement -/
def kS (G : Gx) (w : Wd) (H : Hp) (D : Ends) : Flo → Prop
  | .bad => False
  | .nx e' s' => ∀ w' σ' H', IE G w' e' s' σ' H' → FExt w H w' H' → D.nx σ' H'
  | .bk e' s' => ∀ w' σ' H', IE G w' e' s' σ' H' → FExt w H w' H' → D.bk σ' H'
  | .ct e' s' => ∀ w' σ' H', IE G w' e' s' σ' H' → FExt w H w' H' → D.ct σ' H'
  | .rt d s' => ∀ w' e' σ' v H', IE G w' e' s' σ' H' → FExt w H w' H' → Rp G.K w'.as (Fz w' H') d v → D.rt v H'
  | .ex x e' s' => ∀ w' σ' H' cls d, IE G w' e' s' σ' H' → FExt w H w' H' → ExR G.K G.xc w'.as (Fz w' H') x cls d → G.W cls d σ' H'
def tS (G : Gx) (F : FS) : TS := fun D σ H => ∃ w e s, IE G w e s σ H ∧ kS G w H D (F e s)
theorem kS_ext {w w1 : Wd} {H H1 : Hp} {D : Ends} {f : Flo} (x : FExt w H w1 H1) (h : kS G w H D f) : kS G w1 H1 D f := by
  cases f with
  | bad => exact h
  | nx e s => exact fun w' σ' H' I x' => h w' σ' H' I (x.trans x')
  | bk e s => exact fun w' σ' H' I x' => h w' σ' H' I (x.trans x')
  | ct e s => exact fun w' σ' H' I x' => h w' σ' H' I (x.trans x')
  | rt d s => exact fun w' e' σ' v H' I x' => h w' e' σ' v H' I (x.trans x')
  | ex z e s => exact fun w' σ' H' cls d I x' => h w' σ' H' cls d I (x.trans x')
/-- an expression's outcome handed to a statement's end -/
def Res.flo {α : Type} (r : Res α) (e : Lcs) (f : α → Sto → Flo) : Flo := match r with
  | .bad => .bad
  | .ok a s => f a s
  | .ex x s => .ex x e s
@[simp] theorem flo_ex {α : Type} (x : Dat) (s : Sto) (e : Lcs) (f : α → Sto → Flo) : (Res.ex x s : Res α).flo e f = .ex x e s := rfl
@[simp] theorem flo_ok {α : Type} (a : α) (s : Sto) (e : Lcs) (f : α → Sto → Flo) : (Res.ok a s).flo e f = f a s := rfl
@[simp] theorem flo_bad {α : Type} (e : Lcs) (f : α → Sto → Flo) : (Res.bad : Res α).flo e f = .bad := rfl
theorem flo_holds {α : Type} {r : Res α} {f : α → Sto → Flo} {w : Wd} {e : Lcs} {σ : L2.St} {H : Hp} {D : Ends} (h : kS G w H D (r.flo e f)) : r.holds (fun a s => kS G w H D (f a s)) (kX G w e σ H) := by
  cases r with
  | bad => exact h
  | ok a s => exact h
  | ex x s => exact fun w' H' cls d I x' rr => h w' σ H' cls d I x'.f rr
theorem flo_holdsF {α : Type} {r : Res α} {f : α → Sto → Flo} {w : Wd} {e : Lcs} {H : Hp} {D : Ends} (h : kS G w H D (r.flo e f)) : r.holds (fun a s => kS G w H D (f a s)) fun x s => kS G w H D (.ex x e s) := by
  cases r with
  | bad => exact h
  | ok a s => exact h
  | ex x s => exact h
def Flo.seq (f : Flo) (k : Lcs → Sto → Flo) : Flo := match f with
  | .nx e s => k e s
  | f => f
@[simp] theorem seq_nx (e : Lcs) (s : Sto) (k : Lcs → Sto → Flo) : (Flo.nx e s).seq k = k e s := rfl
@[simp] theorem seq_rt (d : Dat) (s : Sto) (k : Lcs → Sto → Flo) : (Flo.rt d s).seq k = .rt d s := rfl
@[simp] theorem seq_bk (e : Lcs) (s : Sto) (k : Lcs → Sto → Flo) : (Flo.bk e s).seq k = .bk e s := rfl
@[simp] theorem seq_ct (e : Lcs) (s : Sto) (k : Lcs → Sto → Flo) : (Flo.ct e s).seq k = .ct e s := rfl
@[simp] theorem seq_ex (x : Dat) (e : Lcs) (s : Sto) (k : Lcs → Sto → Flo) : (Flo.ex x e s).seq k = .ex x e s := rfl
@[simp] theorem seq_bad (k : Lcs → Sto → Flo) : (Flo.bad).seq k = .bad := rfl
@[simp] def sNext : FS := fun e s => .nx e s
@[simp] def sSeq (F K : FS) : FS := fun e s => (F e s).seq K
@[simp] def sBreak : FS := fun e s => .bk e s
@[simp] def sCont : FS := fun e s => .ct e s
@[simp] def sDrop (Fa : FE) : FS := fun e s => (Fa e s).flo e fun _ s' => .nx e s'
@[simp] def sRet (Fa : FE) : FS := fun e s => (Fa e s).flo e fun d s' => .rt d s'
@[simp] def sRetN : FS := fun _ s => .rt .none s
@[simp] def sIf (Fc : FT) (F K : FS) : FS := fun e s => (Fc e s).flo e fun c s' => if c then F e s' else K e s'
section
variable {st : Stmt} {rest : List Stmt} {a b : List Stmt} {F K : FS} {x : Expr} {Fa : FE} {Fc : FT} {pos : Pos}
theorem ds_nil : PSs X [] (tS G sNext) := PSs_imp pss_nil fun D σ H ⟨w, e, s, I, h⟩ => h w σ H I .refl
theorem ds_cons (h1 : PS X st (tS G F)) (h2 : PSs X rest (tS G K)) : PSs X (st :: rest) (tS G (sSeq F K)) := PSs_imp (pss_cons h1 h2) fun D σ H ⟨w, e, s, I, h⟩ => by
  refine ⟨w, e, s, I, ?_⟩
  unfold sSeq at h
  cases q : F e s with
  | bad => rw [q] at h; exact h
  | nx e1 s1 =>
    rw [q] at h
    exact fun w1 σ1 H1 I1 x1 => ⟨w1, e1, s1, I1, kS_ext x1 h⟩
  | bk e1 s1 => rw [q] at h; exact h
  | ct e1 s1 => rw [q] at h; exact h
  | rt d s1 => rw [q] at h; exact h
  | ex x e1 s1 => rw [q] at h; exact h
theorem ds_one (h1 : PS X st (tS G F)) : PSs X [st] (tS G F) := pss_one h1
theorem ds_pass : PS X (.Pass pos) (tS G sNext) := PS_imp ps_pass fun D σ H ⟨w, e, s, I, h⟩ => h w σ H I .refl
theorem ds_break : PS X (.Break pos) (tS G sBreak) := PS_imp ps_break fun D σ H ⟨w, e, s, I, h⟩ => h w σ H I .refl
theorem ds_continue : PS X (.Continue pos) (tS G sCont) := PS_imp ps_continue fun D σ H ⟨w, e, s, I, h⟩ => h w σ H I .refl
theorem ds_doc {y j pos'} : PS X (.Expr (.Constant (.str y) j pos) pos') (tS G sNext) := PS_imp ps_doc fun D σ H ⟨w, e, s, I, h⟩ => h w σ H I .refl
theorem ds_expr (ha : PE X x (tE G Fa)) (hs : swapsWith x none pos.line X.env = pure false := by rfl) : PS X (.Expr x pos) (tS G (sDrop Fa)) := PS_imp (ps_expr ha hs) fun D σ H ⟨w, e, s, I, h⟩ =>
  ⟨w, e, s, I, holds_imp (flo_holds h) fun d s1 h1 w1 v H1 I1 x1 r1 => h1 w1 σ H1 I1 x1.f⟩
theorem ds_ret (ha : PE X x (tE G Fa)) : PS X (.Return (some x) pos) (tS G (sRet Fa)) := PS_imp (ps_ret ha) fun D σ H ⟨w, e, s, I, h⟩ =>
  ⟨w, e, s, I, holds_imp (flo_holds h) fun d s1 h1 w1 v H1 I1 x1 r1 => h1 w1 e σ v H1 I1 x1.f r1⟩
theorem ds_retN : PS X (.Return none pos) (tS G sRetN) := PS_imp ps_retN fun D σ H ⟨w, e, s, I, h⟩ => h w e σ .non H I .refl rp_n
theorem ds_if {c : Expr} (hc : PT X c (tT G Fc)) (ha : PSs X a (tS G F)) (hb : PSs X b (tS G K)) : PS X (.If c a b pos) (tS G (sIf Fc F K)) := PS_imp (ps_if hc ha hb) fun D σ H ⟨w, e, s, I, h⟩ => by
  refine ⟨w, e, s, I, holds_imp (flo_holds h) fun d s1 h1 w1 H1 I1 x1 => ?_⟩
  cases d with
  | true => exact iteT ⟨w1, e, s1, I1, kS_ext x1.f h1⟩
  | false => exact iteF ⟨w1, e, s1, I1, kS_ext x1.f h1⟩
/-- a ghost step: the local's own list stands still from here on -/
@[simp] def sFreeze (i : Nat) (F : FS) : FS := fun e s => F (frz i e) s
theorem ds_freeze (i : Nat) (h : PS X st (tS G F)) : PS X st (tS G (sFreeze i F)) := PS_imp h fun D σ H ⟨w, e, s, I, q⟩ => by
  obtain ⟨w', J, x⟩ := I.freeze i
  exact ⟨w', frz i e, s, J, kS_ext x q⟩
theorem dss_freeze (i : Nat) (h : PSs X rest (tS G F)) : PSs X rest (tS G (sFreeze i F)) := PSs_imp h fun D σ H ⟨w, e, s, I, q⟩ => by
  obtain ⟨w', J, x⟩ := I.freeze i
  exact ⟨w', frz i e, s, J, kS_ext x q⟩
end

/-! ### targets -/
def kG (G : Gx) (is : List Nat) (w : Wd) (σ : L2.St) (H : Hp) (Q : L2.St → Hp → Prop) : Lcs → Sto → Prop := fun e' s' => ∀ w' σ' H', IE G w' e' s' σ' H' → EExt w H w' H' → (∀ i, i ∉ is → σ'[i]? = σ[i]?) → σ'.length = σ.length → Q σ' H'
def tG (G : Gx) (is : List Nat) (F : FG) : TG := fun v σ H Q => ∃ w e s d, IE G w e s σ H ∧ Rp G.K w.as (Fz w H) d v ∧ (F d e s).holds (kG G is w σ H Q) fun _ _ => False
abbrev FGs := List Dat → Lcs → Sto → Res Lcs
def tGs (G : Gx) (is : List Nat) (F : FGs) : TGs := fun vs σ H Q => ∃ w e s ds, IE G w e s σ H ∧ RpL G.K w.as (Fz w H) ds vs ∧ (F ds e s).holds (kG G is w σ H Q) fun _ _ => False
theorem PG_imp {a : Expr} {t t' : TG} (h : PG X a t) (k : ∀ v σ H Q, t' v σ H Q → t v σ H Q) : PG X a t' := ⟨fun pins s σ H v u Q I r q => h.run pins s σ H v u Q I r (k _ _ _ _ q)⟩
theorem PGs_imp {a : List Expr} {t t' : TGs} (h : PGs X a t) (k : ∀ v σ H Q, t' v σ H Q → t v σ H Q) : PGs X a t' := ⟨fun pins s σ H v u Q I r q => h.run pins s σ H v u Q I r (k _ _ _ _ q)⟩
@[simp] def gSet (i : Nat) : FG := fun d e s => if i < e.length then .ok (e.set i (.fz d)) s else .bad
@[simp] def gsNil : FGs := fun ds e s => match ds with
  | [] => .ok e s
  | _ => .bad
@[simp] def gsCons (F : FG) (Fr : FGs) : FGs := fun ds e s => match ds with
  | d :: r => (F d e s).bind fun e1 s1 => Fr r e1 s1
  | [] => .bad
@[simp] def gTupT (n : Nat) (F : FGs) : FG := fun d e s => match d with
  | .tuple ds => if ds.length = n then F ds e s else .bad
  | _ => .bad
theorem dg_name (i : Nat) {x : Str} {pos : Pos} (hN : X.N.Nodup) (hi : X.N[i]? = some x := by rfl) (hx : Loc X.env.scope x := by first | exact Or.inl rfl | exact Or.inr rfl) (hf : X.fn x = true ∨ X.env.scope.names.lookup x = some .local := by first | exact .inl rfl | exact .inr rfl) : PG X (.Name x pos) (tG G [i] (gSet i)) :=
  PG_imp (pg_name hN hi hx hf) fun v σ H Q ⟨w, e, s, d, I, r, h⟩ => by
    unfold gSet at h
    split at h
    · rename_i c
      exact h w _ H (I.set c r) .refl (fun j hj => by
        have hj' : j ≠ i := by simpa using hj
        exact List.getElem?_set_ne (Ne.symm hj')) (by rw [List.length_set])
    · exact h.elim
theorem dgs_nil : PGs X [] (tGs G [] gsNil) := PGs_imp pgs_nil fun vs σ H Q ⟨w, e, s, ds, I, r, h⟩ => by
  unfold gsNil at h
  split at h
  · cases vs with
    | nil => exact ⟨rfl, h w σ H I .refl (fun _ _ => rfl) rfl⟩
    | cons _ _ => simp [RpL] at r
  · exact h.elim
theorem dgs_cons {a : Expr} {r : List Expr} {F : FG} {Fr : FGs} {is js : List Nat} (h1 : PG X a (tG G is F)) (h2 : PGs X r (tGs G js Fr)) (hs : (assignEach (a :: r) X.env).map (·.2) = assign a X.env :: (assignEach r X.env).map (·.2) := by rfl) : PGs X (a :: r) (tGs G (is ++ js) (gsCons F Fr)) :=
  PGs_imp (pgs_cons h1 h2 hs) fun vs σ H Q ⟨w, e, s, ds, I, r, h⟩ => by
    unfold gsCons at h
    split at h
    · rename_i d dr
      cases vs with
      | nil => simp [RpL] at r
      | cons v vr =>
        simp only [RpL] at r
        refine ⟨v, vr, rfl, w, e, s, d, I, r.1, holds_imp (holds_bind h) fun e1 s1 k w1 σ1 H1 I1 x1 a1 l1 => ?_⟩
        refine ⟨w1, e1, s1, dr, I1, x1.rpl r.2, holds_imp k fun e2 s2 k2 w2 σ2 H2 I2 x2 a2 l2 => ?_⟩
        exact k2 w2 σ2 H2 I2 (x1.trans x2) (fun i hi => (a2 i fun z => hi (List.mem_append_right _ z)).trans (a1 i fun z => hi (List.mem_append_left _ z))) (l2.trans l1)
    · exact h.elim
theorem dg_tup {es : List Expr} {k : Nat} {pos : Pos} {F : FGs} {is : List Nat} {n : Nat} (hc : X.calm = true) (hK : X.K = G.K) (h : PGs X es (tGs G is F)) (hn : (assignEach es X.env).length = n := by rfl) (hst : (assignEach es X.env).findIdx? (·.1) = none := by rfl) : PG X (.Tuple es k pos) (tG G is (gTupT n F)) :=
  PG_imp (pg_tup hc h hn hst) fun v σ H Q ⟨w, e, s, d, I, r, q⟩ => by
    unfold gTupT at q
    split at q
    · rename_i ds
      split at q
      · rename_i c
        obtain ⟨a, xs, rfl, hq, rx⟩ := rp_tuple r
        exact ⟨a, xs, rfl, by rw [hK]; exact sqT_mono Fz_sub hq, by rw [rx.length]; exact c, w, e, s, ds, I, rx, q⟩
      · exact q.elim
    · exact q.elim

/-! ### assignments -/
@[simp] def sAsg (Fa : FE) (F : FG) : FS := fun e s => (Fa e s).flo e fun d s1 => (F d e s1).noex.flo e fun e2 s2 => .nx e2 s2
@[simp] def sSet (i : Nat) (Fa : FE) : FS := fun e s => sAsg Fa (gSet i) e s
theorem tAsg_of {Fa : FE} {F : FG} {is : List Nat} {D : Ends} {σ : L2.St} {H : Hp} (h : tS G (sAsg Fa F) D σ H) : tAsg (tE G Fa) (tG G is F) D σ H := by
  obtain ⟨w, e, s, I, h⟩ := h
  refine ⟨w, e, s, I, holds_imp (flo_holds h) fun d s1 h1 w1 v H1 I1 x1 r1 => ?_⟩
  exact ⟨w1, e, s1, d, I1, r1, holds_imp (holds_noex (flo_holds (e := e) (σ := σ) h1) _) fun e2 s2 h2 w2 σ2 H2 I2 x2 _ _ => h2 w2 σ2 H2 I2 (x1.f.trans x2.f)⟩
theorem ds_asg {tg x : Expr} {pos : Pos} {Fa : FE} {F : FG} {is : List Nat} (ha : PE X x (tE G Fa)) (hg : PG X tg (tG G is F)) (hs : swapsWithSole [tg] x pos.line X.env = pure false := by rfl) (hw : swappedStores [tg] x X.env = pure none := by rfl)
    (h1 : (assignEach [tg] X.env).map (·.2) = [assign tg X.env] := by rfl) : PS X (.Assign [tg] x pos) (tS G (sAsg Fa F)) := PS_imp (ps_asg ha hg hs hw h1) fun _ _ _ h => tAsg_of h
theorem gName_of {i : Nat} {v : V} {σ : L2.St} {H : Hp} {Q : L2.St → Hp → Prop} {is : List Nat} (h : tG G is (gSet i) v σ H Q) (hi : i ∈ is) : gName i v σ H Q := by
  obtain ⟨w, e, s, d, I, r, h⟩ := h
  unfold gSet at h
  split at h
  · rename_i c
    exact h w _ H (I.set c r) .refl (fun j hj => List.getElem?_set_ne fun (z : i = j) => hj (by rw [← z]; exact hi)) (by rw [List.length_set])
  · exact h.elim
theorem ds_set (i : Nat) {y : Str} {x : Expr} {pos pos' : Pos} {Fa : FE} (hN : X.N.Nodup) (ha : PE X x (tE G Fa)) (hi : X.N[i]? = some y := by rfl) (hx : Loc X.env.scope y := by first | exact Or.inl rfl | exact Or.inr rfl) (hs : swapsWith x (some (.Name y pos')) pos.line X.env = pure false := by rfl)
    (hf : X.fn y = true ∨ X.env.scope.names.lookup y = some .local := by first | exact .inl rfl | exact .inr rfl) : PS X (.Assign [.Name y pos'] x pos) (tS G (sSet i Fa)) :=
  PS_imp (ps_set hN hi hx ha hs hf) fun D σ H h => by
    have h' := tAsg_of (is := [i]) h
    obtain ⟨w, e, s, I, h'⟩ := h'
    exact ⟨w, e, s, I, holds_imp h' fun d s1 k w1 v H1 I1 x1 r1 => gName_of (k w1 v H1 I1 x1 r1) (by simp)⟩
/-- a, b = x, y with plain local names -/
@[simp] def sPar (i j : Nat) (Fs : FA) : FS := fun e s => (Fs e s).flo e fun ds s1 => match ds with
  | [d1, d2] => if i < e.length ∧ j < e.length then .nx ((e.set i (.fz d1)).set j (.fz d2)) s1 else .bad
  | _ => .bad
theorem ds_par (i j : Nat) {x y : Str} {a b : Expr} {Fs : FA} {px py pt pos : Pos} {kt k2 pt2} (hc : X.calm = true) (hN : X.N.Nodup) (ha : PA X [a, b] (tA G Fs)) (hi : X.N[i]? = some x := by rfl) (hj : X.N[j]? = some y := by rfl) (hij : i ≠ j := by decide)
    (hx : X.env.scope.names.lookup x = some .local := by rfl) (hy : X.env.scope.names.lookup y = some .local := by rfl)
    (hw : swappedStores [.Tuple [.Name x px, .Name y py] kt pt] (.Tuple [a, b] k2 pt2) X.env = pure (some [x, y]) := by rfl)
    (hs : swapsWithSole [.Tuple [.Name x px, .Name y py] kt pt] (.Tuple [a, b] k2 pt2) pos.line X.env = pure false := by rfl) :
    PS X (.Assign [.Tuple [.Name x px, .Name y py] kt pt] (.Tuple [a, b] k2 pt2) pos) (tS G (sPar i j Fs)) := PS_imp (ps_par hc hN hi hj hij hx hy ha hw hs) fun D σ H ⟨w, e, s, I, h⟩ => by
  refine ⟨w, e, s, I, holds_imp (flo_holds h) fun ds s1 h1 w1 vs H1 I1 x1 r1 => ?_⟩
  split at h1
  · rename_i d1 d2
    split at h1
    · rename_i c
      obtain ⟨v1, v2, rfl, k1, k2⟩ := rpl2 r1
      exact ⟨v1, v2, rfl, h1 w1 _ H1 ((I1.set c.1 k1).set (by rw [List.length_set]; exact c.2) k2) x1.f⟩
    · exact h1.elim
  · exact h1.elim
/-- x op= e, ints -/
@[simp] def sAug (i : Nat) (f : Int → Int → Int) (Fa : FE) : FS := fun e s => match e[i]? with
  | some (.fz (.int a)) => (Fa e s).flo e fun d s1 => match d with
    | .int b => .nx (e.set i (.fz (.int (f a b)))) s1
    | _ => .bad
  | _ => .bad
theorem ds_aug (i : Nat) {x : Str} {a : Expr} {op : Operator} {pos pos' : Pos} {Fa : FE} {f : Int → Int → Int} (ho : PIp X op (ipI f)) (hN : X.N.Nodup) (ha : PE X a (tE G Fa)) (hi : X.N[i]? = some x := by rfl) (hx : Loc X.env.scope x := by first | exact Or.inl rfl | exact Or.inr rfl)
    (hf : X.fn x = true ∨ X.env.scope.names.lookup x = some .local := by first | exact .inl rfl | exact .inr rfl) : PS X (.AugAssign (.Name x pos') op a pos) (tS G (sAug i f Fa)) := PS_imp (ps_aug hN hi hx ha ho hf) fun D σ H ⟨w, e, s, I, h⟩ => by
  unfold sAug at h
  split at h
  · rename_i m hm
    obtain ⟨v, h1, h2⟩ := I.slot i _ hm
    have hi' : i < e.length := (List.getElem?_eq_some_iff.mp hm).1
    refine ⟨v, h1, w, e, s, I, holds_imp (flo_holds h) fun d s1 h3 w1 y H1 I1 x1 r1 => ?_⟩
    split at h3
    · rename_i n
      refine ⟨m, n, rp_int h2, rp_int r1, h3 w1 _ H1 (I1.set hi' rp_i) x1.f⟩
    · exact h3.elim
  · exact h.elim
theorem ds_augAdd (i : Nat) {x : Str} {a : Expr} {pos pos' : Pos} {Fa : FE} (hN : X.N.Nodup) (ha : PE X a (tE G Fa)) (hi : X.N[i]? = some x := by rfl) (hx : Loc X.env.scope x := by first | exact Or.inl rfl | exact Or.inr rfl)
    (hf : X.fn x = true ∨ X.env.scope.names.lookup x = some .local := by first | exact .inl rfl | exact .inr rfl) : PS X (.AugAssign (.Name x pos') .Add a pos) (tS G (sAug i (· + ·) Fa)) := ds_aug i ip_add hN ha hi hx hf
end
end DL

namespace DL
open PySem PySem.Spec PyProof.Rows L2
section
variable {X : Cx} {G : Gx}

/-! ### what is walked -/
structure Wk (G : Gx) (w : Wd) (H : Hp) (J : It) (ds : List Dat) : Prop where
  go : ∀ w' H', FExt w H w' H' → ∀ i, i < ds.length → J.go i H'
  stop : ∀ w' H', FExt w H w' H' → ∀ i, i = ds.length → J.stop i H'
  yld : ∀ w' e s σ H' H'' i x, IE G w' e s σ H' → FExt w H w' H' → i < ds.length → J.yld i H' x H'' → IE G w' e s σ H'' ∧ EExt w' H' w' H'' ∧ ∃ d, ds[i]? = some d ∧ Rp G.K w'.as (Fz w' H'') d x
def kI (G : Gx) (w : Wd) (e : Lcs) (σ : L2.St) (H : Hp) (R : It → Hp → Prop) : List Dat → Sto → Prop := fun ds s' => ∀ w' H' J, IE G w' e s' σ H' → EExt w H w' H' → Wk G w' H' J ds → R J H'
def tI (G : Gx) (F : FA) : TI := fun σ H R => ∃ w e s, IE G w e s σ H ∧ (F e s).holds (kI G w e σ H R) (kX G w e σ H)
theorem PI_imp {tg a : Expr} {t t' : TI} (h : PI X tg a t) (k : ∀ σ H R, t' σ H R → t σ H R) : PI X tg a t' := ⟨fun pins s σ H R I q => h.run pins s σ H R I (k _ _ _ q)⟩
theorem PI_or {tg a : Expr} {t t' : TI} (h : PI X tg a t) (h' : PI X tg a t') : PI X tg a (fun σ H R => t σ H R ∨ t' σ H R) := ⟨fun pins s σ H R I q => by
  rcases q with q | q
  · exact h.run pins s σ H R I q
  · exact h'.run pins s σ H R I q⟩
theorem wk_list {w : Wd} {H : Hp} {a : Addr} {xs : List V} {ds : List Dat} (ha : Fz w H a = some (.lst xs)) (r : RpL G.K w.as (Fz w H) ds xs) : Wk G w H (Itl G.K a) ds := by
  have at_ : ∀ {w' H'}, FExt w H w' H' → SqL G.K H' a xs := fun {w' H'} x => .inl (.inl (Fz_sub _ _ (x.same _ _ ha)))
  refine ⟨fun w' H' x i hi => ?_, fun w' H' x i hi => ⟨xs, at_ x, by rw [r.length]; omega⟩, fun w' e s σ H' H'' i v I x hi y => ?_⟩
  · have hi' : i < xs.length := by rw [r.length]; exact hi
    exact ⟨xs, xs[i], at_ x, List.getElem?_eq_getElem hi'⟩
  · obtain ⟨rfl, y⟩ := y
    obtain ⟨d, h1, h2⟩ := r.get (y xs (at_ x))
    exact ⟨I, .refl, d, h1, x.rp h2⟩
theorem wk_tuple {w : Wd} {H : Hp} {a : Addr} {xs : List V} {ds : List Dat} (ha : SqT G.K (Fz w H) a xs) (r : RpL G.K w.as (Fz w H) ds xs) : Wk G w H (Itt G.K a) ds := by
  have at_ : ∀ {w' H'}, FExt w H w' H' → SqT G.K H' a xs := fun {w' H'} x => sqT_mono (x.same.trans Fz_sub) ha
  refine ⟨fun w' H' x i hi => ?_, fun w' H' x i hi => ⟨xs, at_ x, by rw [r.length]; omega⟩, fun w' e s σ H' H'' i v I x hi y => ?_⟩
  · have hi' : i < xs.length := by rw [r.length]; exact hi
    exact ⟨xs, xs[i], at_ x, List.getElem?_eq_getElem hi'⟩
  · obtain ⟨rfl, y⟩ := y
    obtain ⟨d, h1, h2⟩ := r.get (y xs (at_ x))
    exact ⟨I, .refl, d, h1, x.rp h2⟩
def chars (z : Str) : List Dat := z.cps.toList.map fun c => .str ⟨#[c]⟩
theorem wk_str {w : Wd} {H : Hp} {z : Str} : Wk G w H (Its z) (chars z) := by
  have hl : (chars z).length = z.cps.size := by unfold chars; rw [List.length_map, Array.length_toList]
  refine ⟨fun w' H' x i hi => by rw [hl] at hi; exact hi, fun w' H' x i hi => by rw [hl] at hi; exact Nat.le_of_eq hi.symm, fun w' e s σ H' H'' i v I x hi y => ?_⟩
  obtain ⟨rfl, c, hc, rfl⟩ := y
  refine ⟨I, .refl, .str ⟨#[c]⟩, ?_, rp_s⟩
  unfold chars
  rw [List.getElem?_map, Array.getElem?_toList, hc]
  rfl
@[simp] def fIter (Fa : FE) : FA := fun e s => (Fa e s).bind fun d s1 => match d with
  | .list ds => .ok ds s1
  | .tuple ds => .ok ds s1
  | .str z => .ok (chars z) s1
  | _ => .bad
theorem di_seq {tg a : Expr} {Fa : FE} (hK : X.K = G.K) (ha : PE X a (tE G Fa)) : PI X tg a (tI G (fIter Fa)) := PI_imp (PI_or (pi_list ha) (PI_or (pi_tup ha) (pi_str ha))) fun σ H R ⟨w, e, s, I, h⟩ => by
  unfold fIter at h
  rw [hK]
  cases q : Fa e s with
  | bad => rw [q] at h; exact h.elim
  | ex x0 s0 => exact .inl ⟨w, e, s, I, by rw [q] at h ⊢; exact h⟩
  | ok d s1 =>
    rw [q] at h
    cases d with
    | list ds =>
      refine .inl ⟨w, e, s, I, ?_⟩
      rw [q]
      intro w1 x H1 I1 x1 r1
      obtain ⟨p, xs, rfl, hp, rx⟩ := rp_list r1
      exact ⟨p, rfl, ⟨xs, .inl (.inl (Fz_sub _ _ hp))⟩, h w1 H1 _ I1 x1 (wk_list hp rx)⟩
    | tuple ds =>
      refine .inr (.inl ⟨w, e, s, I, ?_⟩)
      rw [q]
      intro w1 x H1 I1 x1 r1
      obtain ⟨p, xs, rfl, hp, rx⟩ := rp_tuple r1
      exact ⟨p, rfl, ⟨xs, sqT_mono Fz_sub hp⟩, h w1 H1 _ I1 x1 (wk_tuple hp rx)⟩
    | str z =>
      refine .inr (.inr ⟨w, e, s, I, ?_⟩)
      rw [q]
      intro w1 x H1 I1 x1 r1
      exact ⟨z, rp_str r1, h w1 H1 _ I1 x1 wk_str⟩
    | _ => exact h.elim
def ups (lo : Int) (n : Nat) : List Dat := (List.range n).map fun (i : Nat) => PyData.int (lo + i)
theorem ups_len (lo : Int) (n : Nat) : (ups lo n).length = n := by unfold ups; rw [List.length_map, List.length_range]
theorem wk_range {w : Wd} {H : Hp} {lo : Int} {n : Nat} : Wk G w H (Itr lo n) (ups lo n) := by
  refine ⟨fun w' H' x i hi => by rw [ups_len] at hi; exact hi, fun w' H' x i hi => by rw [ups_len] at hi; exact Nat.le_of_eq hi.symm, fun w' e s σ H' H'' i v I x hi y => ?_⟩
  obtain ⟨rfl, rfl⟩ := y
  rw [ups_len] at hi
  refine ⟨I, .refl, .int (lo + i), ?_, rp_i⟩
  unfold ups
  rw [List.getElem?_map, List.getElem?_range hi]; rfl
def cRng (i : Int) : Bool := decide (-(2 ^ 62) ≤ i) && decide (i < 2 ^ 62)
theorem cRng_is {i : Int} (h : cRng i = true) : -(2 ^ 62) ≤ i ∧ i < 2 ^ 62 := by
  unfold cRng at h
  rw [Bool.and_eq_true] at h
  exact ⟨of_decide_eq_true h.1, of_decide_eq_true h.2⟩
@[simp] def gRng1 : List Dat → Sto → Res (List Dat) := fun ds s => match ds with
  | [.int j] => if cRng j then .ok (ups 0 j.toNat) s else .bad
  | _ => .bad
@[simp] def gRng2 : List Dat → Sto → Res (List Dat) := fun ds s => match ds with
  | [.int i, .int j] => if cRng i && cRng j then .ok (ups i (j - i).toNat) s else .bad
  | _ => .bad
@[simp] def fItA (g : List Dat → Sto → Res (List Dat)) (Fs : FA) : FA := fun e s => (Fs e s).bind fun ds s1 => g ds s1
theorem di_range1 {tg a : Expr} {p pos : Pos} {Fs : FA} (hm : X.mg "range" = none) (ha : PA X [a] (tA G Fs)) (hg : Gl X "range" := by rfl) (hs : starEach [a] X.env = [(false, eval a X.env)] := by rfl) : PI X tg (.Call (.Name "range" p) [a] [] pos) (tI G (fItA gRng1 Fs)) :=
  PI_imp (pi_range1 hg hm ha hs) fun σ H R ⟨w, e, s, I, h⟩ => by
    refine ⟨w, e, s, I, holds_imp (holds_bind h) fun ds s1 h1 w1 vs H1 I1 x1 r1 => ?_⟩
    unfold gRng1 at h1
    split at h1
    · split at h1
      · rename_i c
        obtain ⟨v, rfl, k⟩ := rpl1 r1
        rw [rp_int k]
        exact ⟨_, rfl, (cRng_is c).1, (cRng_is c).2, h1 w1 H1 _ I1 x1 wk_range⟩
      · exact h1.elim
    · exact h1.elim
theorem di_range2 {tg a b : Expr} {p pos : Pos} {Fs : FA} (hm : X.mg "range" = none) (ha : PA X [a, b] (tA G Fs)) (hg : Gl X "range" := by rfl) (hs : starEach [a, b] X.env = [(false, eval a X.env), (false, eval b X.env)] := by rfl) (hs2 : starEach [b] X.env = [(false, eval b X.env)] := by rfl) :
    PI X tg (.Call (.Name "range" p) [a, b] [] pos) (tI G (fItA gRng2 Fs)) :=
  PI_imp (pi_range2 hg hm ha hs hs2) fun σ H R ⟨w, e, s, I, h⟩ => by
    refine ⟨w, e, s, I, holds_imp (holds_bind h) fun ds s1 h1 w1 vs H1 I1 x1 r1 => ?_⟩
    unfold gRng2 at h1
    split at h1
    · split at h1
      · rename_i c
        rw [Bool.and_eq_true] at c
        obtain ⟨v, v2, rfl, k, k2⟩ := rpl2 r1
        rw [rp_int k, rp_int k2]
        exact ⟨_, _, rfl, ⟨(cRng_is c.1).1, (cRng_is c.1).2, (cRng_is c.2).1, (cRng_is c.2).2⟩, h1 w1 H1 _ I1 x1 wk_range⟩
      · exact h1.elim
    · exact h1.elim
/-- pairs: zip, enumerate -/
def pairs (xs ys : List Dat) : List Dat := (xs.zip ys).map fun p => .tuple [p.1, p.2]
theorem pair_new {w : Wd} {e : Lcs} {s : Sto} {σ : L2.St} {H : Hp} {T : Addr} {x y : V} {a b : Dat} (I : IE G w e s σ H) (hT : H T = none) (ra : Rp G.K w.as (Fz w H) a x) (rb : Rp G.K w.as (Fz w H) b y) :
    IE G w e s σ (upd H T (.tup [x, y])) ∧ EExt w H w (upd H T (.tup [x, y])) ∧ Rp G.K w.as (Fz w (upd H T (.tup [x, y]))) (.tuple [a, b]) (.ref T) := by
  refine ⟨I.new hT, I.newE hT, ?_⟩
  simp only [Rp]
  exact ⟨T, [x, y], rfl, .inl (.inl (I.newF hT)), RpL.cons ((I.newE hT).rp ra) (RpL.one ((I.newE hT).rp rb))⟩
theorem pairs_len (xs ys : List Dat) : (pairs xs ys).length = min xs.length ys.length := by unfold pairs; rw [List.length_map, List.length_zip]
theorem pairs_get {xs ys : List Dat} {i : Nat} {a b : Dat} (h1 : xs[i]? = some a) (h2 : ys[i]? = some b) : (pairs xs ys)[i]? = some (.tuple [a, b]) := by
  unfold pairs
  rw [List.getElem?_map, (List.getElem?_zip_eq_some (z := (a, b))).mpr ⟨h1, h2⟩]; rfl
theorem wk_zip {w : Wd} {H : Hp} {a b : Addr} {xs ys : List V} {ds es : List Dat} (ha : Fz w H a = some (.lst xs)) (r : RpL G.K w.as (Fz w H) ds xs) (hb : Fz w H b = some (.lst ys)) (r2 : RpL G.K w.as (Fz w H) es ys) : Wk G w H (Itz G.K a b) (pairs ds es) := by
  have at_ : ∀ {w' H'}, FExt w H w' H' → SqL G.K H' a xs := fun {w' H'} x => .inl (.inl (Fz_sub _ _ (x.same _ _ ha)))
  have at2 : ∀ {w' H'}, FExt w H w' H' → SqL G.K H' b ys := fun {w' H'} x => .inl (.inl (Fz_sub _ _ (x.same _ _ hb)))
  have l1 := r.length
  have l2 := r2.length
  refine ⟨fun w' H' x i hi => ?_, fun w' H' x i hi => ⟨xs, ys, at_ x, at2 x, ?_⟩, fun w' e s σ H' H'' i v I x hi y => ?_⟩
  · rw [pairs_len] at hi
    have h1 : i < xs.length := by omega
    have h2 : i < ys.length := by omega
    exact ⟨xs, ys, xs[i], ys[i], at_ x, at2 x, List.getElem?_eq_getElem h1, List.getElem?_eq_getElem h2⟩
  · rw [pairs_len] at hi
    omega
  · obtain ⟨T, x1, y1, rfl, hT, rfl, f1, f2⟩ := y
    obtain ⟨d1, g1, k1⟩ := r.get (f1 xs (at_ x))
    obtain ⟨d2, g2, k2⟩ := r2.get (f2 ys (at2 x))
    obtain ⟨J, E, R⟩ := pair_new I hT (x.rp k1) (x.rp k2)
    exact ⟨J, E, _, pairs_get g1 g2, R⟩
theorem wk_zipT {w : Wd} {H : Hp} {a b : Addr} {xs ys : List V} {ds es : List Dat} (ha : SqT G.K (Fz w H) a xs) (r : RpL G.K w.as (Fz w H) ds xs) (hb : SqT G.K (Fz w H) b ys) (r2 : RpL G.K w.as (Fz w H) es ys) : Wk G w H (RZ.ItzT G.K a b) (pairs ds es) := by
  have at_ : ∀ {w' H'}, FExt w H w' H' → SqT G.K H' a xs := fun {w' H'} x => sqT_mono (x.same.trans Fz_sub) ha
  have at2 : ∀ {w' H'}, FExt w H w' H' → SqT G.K H' b ys := fun {w' H'} x => sqT_mono (x.same.trans Fz_sub) hb
  have l1 := r.length
  have l2 := r2.length
  refine ⟨fun w' H' x i hi => ?_, fun w' H' x i hi => ⟨xs, ys, at_ x, at2 x, ?_⟩, fun w' e s σ H' H'' i v I x hi y => ?_⟩
  · rw [pairs_len] at hi
    have h1 : i < xs.length := by omega
    have h2 : i < ys.length := by omega
    exact ⟨xs, ys, xs[i], ys[i], at_ x, at2 x, List.getElem?_eq_getElem h1, List.getElem?_eq_getElem h2⟩
  · rw [pairs_len] at hi
    omega
  · obtain ⟨T, x1, y1, rfl, hT, rfl, f1, f2⟩ := y
    obtain ⟨d1, g1, k1⟩ := r.get (f1 xs (at_ x))
    obtain ⟨d2, g2, k2⟩ := r2.get (f2 ys (at2 x))
    obtain ⟨J, E, R⟩ := pair_new I hT (x.rp k1) (x.rp k2)
    exact ⟨J, E, _, pairs_get g1 g2, R⟩
theorem wk_enum {w : Wd} {H : Hp} {a : Addr} {xs : List V} {ds : List Dat} (ha : Fz w H a = some (.lst xs)) (r : RpL G.K w.as (Fz w H) ds xs) : Wk G w H (Ite G.K a) (pairs (ups 0 ds.length) ds) := by
  have at_ : ∀ {w' H'}, FExt w H w' H' → SqL G.K H' a xs := fun {w' H'} x => .inl (.inl (Fz_sub _ _ (x.same _ _ ha)))
  have l1 := r.length
  refine ⟨fun w' H' x i hi => ?_, fun w' H' x i hi => ⟨xs, at_ x, ?_⟩, fun w' e s σ H' H'' i v I x hi y => ?_⟩
  · rw [pairs_len, ups_len] at hi
    have h1 : i < xs.length := by omega
    exact ⟨xs, xs[i], at_ x, List.getElem?_eq_getElem h1⟩
  · rw [pairs_len, ups_len] at hi
    omega
  · obtain ⟨T, y1, rfl, hT, rfl, f2⟩ := y
    obtain ⟨d2, g2, k2⟩ := r.get (f2 xs (at_ x))
    rw [pairs_len, ups_len] at hi
    obtain ⟨J, E, R⟩ := pair_new I hT (rp_i (i := (i : Int))) (x.rp k2)
    refine ⟨J, E, _, pairs_get ?_ g2, R⟩
    unfold ups
    rw [List.getElem?_map, List.getElem?_range (by omega)]
    simp
@[simp] def gZip : List Dat → Sto → Res (List Dat) := fun ds s => match ds with
  | [.list xs, .list ys] => .ok (pairs xs ys) s
  | [.tuple xs, .tuple ys] => .ok (pairs xs ys) s
  | _ => .bad
@[simp] def gEnum : List Dat → Sto → Res (List Dat) := fun ds s => match ds with
  | [.list xs] => .ok (pairs (ups 0 xs.length) xs) s
  | _ => .bad
theorem di_zip {a b : Expr} {p pos tpos : Pos} {elts : List Expr} {kk : Nat} {Fs : FA} (hK : X.K = G.K) (hm : X.mg "zip" = none) (ha : PA X [a, b] (tA G Fs)) (hg : Gl X "zip" := by rfl)
    (hs : starEach [a, b] X.env = (false, eval a X.env) :: starEach [b] X.env := by rfl) (hpl : (backTo pos (starEach [b] X.env)).any (·.1) = false := by rfl) : PI X (.Tuple elts kk tpos) (.Call (.Name "zip" p) [a, b] [] pos) (tI G (fItA gZip Fs)) :=
  PI_imp (RZ.pi_zipA hg hm ha hs hpl) fun σ H R ⟨w, e, s, I, h⟩ => by
    rw [hK]
    refine ⟨w, e, s, I, holds_imp (holds_bind h) fun ds s1 h1 w1 vs H1 I1 x1 r1 => ?_⟩
    unfold gZip at h1
    split at h1
    · obtain ⟨v, v2, rfl, k, k2⟩ := rpl2 r1
      obtain ⟨p, xs, rfl, hp, rx⟩ := rp_list k
      obtain ⟨q, ys, rfl, hq, ry⟩ := rp_list k2
      exact ⟨p, q, xs, ys, rfl, .inl ⟨.inl (.inl (Fz_sub _ _ hp)), .inl (.inl (Fz_sub _ _ hq)), h1 w1 H1 _ I1 x1 (wk_zip hp rx hq ry)⟩⟩
    · obtain ⟨v, v2, rfl, k, k2⟩ := rpl2 r1
      obtain ⟨p, xs, rfl, hp, rx⟩ := rp_tuple k
      obtain ⟨q, ys, rfl, hq, ry⟩ := rp_tuple k2
      exact ⟨p, q, xs, ys, rfl, .inr ⟨sqT_mono Fz_sub hp, sqT_mono Fz_sub hq, h1 w1 H1 _ I1 x1 (wk_zipT hp rx hq ry)⟩⟩
    · exact h1.elim
theorem di_enum {a : Expr} {p pos tpos : Pos} {elts : List Expr} {kk : Nat} {Fs : FA} (hK : X.K = G.K) (hm : X.mg "enumerate" = none) (ha : PA X [a] (tA G Fs)) (hg : Gl X "enumerate" := by rfl) (hs : starEach [a] X.env = [(false, eval a X.env)] := by rfl) :
    PI X (.Tuple elts kk tpos) (.Call (.Name "enumerate" p) [a] [] pos) (tI G (fItA gEnum Fs)) :=
  PI_imp (pi_enum hg hm ha hs) fun σ H R ⟨w, e, s, I, h⟩ => by
    rw [hK]
    refine ⟨w, e, s, I, holds_imp (holds_bind h) fun ds s1 h1 w1 vs H1 I1 x1 r1 => ?_⟩
    unfold gEnum at h1
    split at h1
    · obtain ⟨v, rfl, k⟩ := rpl1 r1
      obtain ⟨p, xs, rfl, hp, rx⟩ := rp_list k
      exact ⟨p, xs, rfl, .inl (.inl (Fz_sub _ _ hp)), h1 w1 H1 _ I1 x1 (wk_enum hp rx)⟩
    · exact h1.elim

/-! ### for -/
@[simp] def forL (F : FG) (B : FS) : List Dat → FS
  | [], e, s => .nx e s
  | d :: ds, e, s => (F d e s).noex.flo e fun e1 s1 => match B e1 s1 with
    | .nx e2 s2 => forL F B ds e2 s2
    | .ct e2 s2 => forL F B ds e2 s2
    | .bk e2 s2 => .nx e2 s2
    | .rt d s2 => .rt d s2
    | .ex x e2 s2 => .ex x e2 s2
    | .bad => .bad
@[simp] def sFor (Fi : FA) (F : FG) (B : FS) : FS := fun e s => (Fi e s).flo e fun ds s1 => forL F B ds e s1
theorem ds_for {tg iter : Expr} {body : List Stmt} {pos : Pos} {Fi : FA} {F : FG} {B : FS} {is : List Nat} (hp : PassesOwn (model X.prog X.w) X.A X.env X.xe) (hc : X.calm = true) (hi : PI X tg iter (tI G Fi)) (hg : PG X tg (tG G is F)) (hb : PSs X body (tS G B))
    (hs : ∀ x, foldedSetIterable iter X.env x = pure x := by intro _; rfl) : PS X (.For tg iter body [] pos) (tS G (sFor Fi F B)) := PS_imp (ps_for hp hc hi hg hb hs) fun D σ H ⟨w, e, s, I, h⟩ => by
  refine ⟨w, e, s, I, holds_imp (flo_holds h) fun ds s1 h1 w1 H1 J I1 x1 W => ?_⟩
  refine ⟨fun i m σ2 H2 => m = ds.length - i ∧ i ≤ ds.length ∧ ∃ w2 e2 s2, IE G w2 e2 s2 σ2 H2 ∧ FExt w1 H1 w2 H2 ∧ kS G w2 H2 D (forL F B (ds.drop i) e2 s2),
    ⟨ds.length, by omega, Nat.zero_le _, w1, e, s1, I1, .refl, kS_ext x1.f h1⟩, ?_⟩
  rintro i m σ2 H2 ⟨rfl, hi, w2, e2, s2, I2, x2, q⟩
  by_cases hlt : i < ds.length
  · refine .inr ⟨W.go w2 H2 x2 i hlt, fun σ3 H3 => ∃ w3 e3 s3, IE G w3 e3 s3 σ3 H3 ∧ FExt w1 H1 w3 H3 ∧ kS G w3 H3 D (forL F B (ds.drop (i + 1)) e3 s3), fun σ3 H3 ⟨w3, e3, s3, I3, x3, q3⟩ => ⟨ds.length - (i + 1), by omega, rfl, hlt, w3, e3, s3, I3, x3, q3⟩, fun v H3 y => ?_⟩
    obtain ⟨I3, x3, d, hd, rd⟩ := W.yld w2 e2 s2 σ2 H2 H3 i v I2 x2 hlt y
    have ed : ds.drop i = d :: ds.drop (i + 1) := by
      rw [List.drop_eq_getElem_cons hlt]
      rw [List.getElem?_eq_getElem hlt] at hd
      cases hd
      rfl
    rw [ed] at q
    unfold forL at q
    refine ⟨w2, e2, s2, d, I3, rd, holds_imp (holds_noex (flo_holds (e := e2) (σ := σ2) q) _) fun e4 s4 h4 w4 σ4 H4 I4 x4 _ _ => ?_⟩
    have x24 : FExt w2 H2 w4 H4 := x3.f.trans x4.f
    refine ⟨w4, e4, s4, I4, ?_⟩
    cases z : B e4 s4 with
    | bad => rw [z] at h4; exact h4
    | nx e5 s5 =>
      rw [z] at h4
      exact fun w5 σ5 H5 I5 x5 => ⟨w5, e5, s5, I5, (x2.trans x24).trans x5, kS_ext (x24.trans x5) h4⟩
    | ct e5 s5 =>
      rw [z] at h4
      exact fun w5 σ5 H5 I5 x5 => ⟨w5, e5, s5, I5, (x2.trans x24).trans x5, kS_ext (x24.trans x5) h4⟩
    | bk e5 s5 =>
      rw [z] at h4
      exact fun w5 σ5 H5 I5 x5 => h4 w5 σ5 H5 I5 (x24.trans x5)
    | rt d5 s5 =>
      rw [z] at h4
      exact fun w5 e6 σ5 v5 H5 I5 x5 => h4 w5 e6 σ5 v5 H5 I5 (x24.trans x5)
    | ex y5 e5 s5 =>
      rw [z] at h4
      exact fun w5 σ5 H5 cls d I5 x5 => h4 w5 σ5 H5 cls d I5 (x24.trans x5)
  · have e0 : ds.drop i = [] := List.drop_eq_nil_of_le (by omega)
    rw [e0] at q
    exact .inl ⟨W.stop w2 H2 x2 i (by omega), q w2 σ2 H2 I2 .refl⟩

/-! ### while -/
/-- n turns at most -/
def whileN (C : FT) (B : FS) : Nat → FS
  | 0, _, _ => .bad
  | n + 1, e, s => (C e s).flo e fun c s1 => if c then (match B e s1 with
    | .nx e2 s2 => whileN C B n e2 s2
    | .ct e2 s2 => whileN C B n e2 s2
    | .bk e2 s2 => .nx e2 s2
    | .rt d s2 => .rt d s2
    | .ex x e2 s2 => .ex x e2 s2
    | .bad => .bad) else .nx e s1
theorem whileN_more {C : FT} {B : FS} : ∀ (n : Nat) (e : Lcs) (s : Sto), whileN C B n e s ≠ .bad → ∀ m, n ≤ m → whileN C B m e s = whileN C B n e s
  | 0, e, s, h, _, _ => absurd rfl h
  | n + 1, e, s, h, 0, hm => absurd hm (by omega)
  | n + 1, e, s, h, m + 1, hm => by
    unfold whileN at h ⊢
    cases q : C e s with
    | bad => rfl
    | ok c s1 =>
      rw [q] at h
      simp only [flo_ok] at h ⊢
      cases c with
      | false => rfl
      | true =>
        simp only [if_true] at h ⊢
        cases z : B e s1 with
        | bad => rfl
        | nx e2 s2 =>
          rw [z] at h
          exact whileN_more n e2 s2 h m (by omega)
        | ct e2 s2 =>
          rw [z] at h
          exact whileN_more n e2 s2 h m (by omega)
        | bk e2 s2 => rfl
        | rt d s2 => rfl
        | ex x e2 s2 => rfl
    | ex x s1 => rfl
/-- as many turns as a loop may take at most -/
def turns : Nat := 2 ^ 62
def sWhile (C : FT) (B : FS) : FS := whileN C B turns
theorem while_is {C : FT} {B : FS} {n : Nat} {e : Lcs} {s : Sto} (h : whileN C B n e s ≠ .bad) (hn : n ≤ turns := by decide) : sWhile C B e s = whileN C B n e s := whileN_more n e s h _ hn
theorem while_ex {C : FT} {B : FS} {e : Lcs} {s : Sto} (h : sWhile C B e s ≠ .bad) : ∃ n, whileN C B n e s = sWhile C B e s ∧ whileN C B n e s ≠ .bad := ⟨turns, rfl, h⟩
theorem ds_while {c : Expr} {body : List Stmt} {pos : Pos} {C : FT} {B : FS} (hp : PassesOwn (model X.prog X.w) X.A X.env X.xe) (hc : PT X c (tT G C)) (hb : PSs X body (tS G B)) : PS X (.While c body [] pos) (tS G (sWhile C B)) := PS_imp (ps_while hp hc hb) fun D σ H ⟨w, e, s, I, h⟩ => by
  have nb : sWhile C B e s ≠ .bad := fun z => by rw [z] at h; exact h
  obtain ⟨n, e1, e2⟩ := while_ex nb
  refine ⟨fun m σ2 H2 => ∃ w2 e2 s2, IE G w2 e2 s2 σ2 H2 ∧ FExt w H w2 H2 ∧ kS G w2 H2 D (whileN C B m e2 s2), ⟨n, w, e, s, I, .refl, by rw [e1]; exact h⟩, ?_⟩
  rintro m σ2 H2 ⟨w2, e2, s2, I2, x2, q⟩
  cases m with
  | zero => exact q.elim
  | succ m =>
    unfold whileN at q
    refine ⟨w2, e2, s2, I2, holds_imp (flo_holds q) fun b s3 h3 w3 H3 I3 x3 => ?_⟩
    cases b with
    | false => exact iteF (h3 w3 σ2 H3 I3 x3.f)
    | true =>
      refine iteT ⟨fun σ4 H4 => ∃ w4 e4 s4, IE G w4 e4 s4 σ4 H4 ∧ FExt w H w4 H4 ∧ kS G w4 H4 D (whileN C B m e4 s4), fun σ4 H4 k => ⟨m, Nat.lt_succ_self _, k⟩, w3, e2, s3, I3, ?_⟩
      simp only [if_true] at h3
      cases z : B e2 s3 with
      | bad => rw [z] at h3; exact h3
      | nx e5 s5 =>
        rw [z] at h3
        exact fun w5 σ5 H5 I5 x5 => ⟨w5, e5, s5, I5, (x2.trans x3.f).trans x5, kS_ext (x3.f.trans x5) h3⟩
      | ct e5 s5 =>
        rw [z] at h3
        exact fun w5 σ5 H5 I5 x5 => ⟨w5, e5, s5, I5, (x2.trans x3.f).trans x5, kS_ext (x3.f.trans x5) h3⟩
      | bk e5 s5 =>
        rw [z] at h3
        exact fun w5 σ5 H5 I5 x5 => h3 w5 σ5 H5 I5 (x3.f.trans x5)
      | rt d5 s5 =>
        rw [z] at h3
        exact fun w5 e6 σ5 v5 H5 I5 x5 => h3 w5 e6 σ5 v5 H5 I5 (x3.f.trans x5)
      | ex y5 e5 s5 =>
        rw [z] at h3
        exact fun w5 σ5 H5 cls d I5 x5 => h3 w5 σ5 H5 cls d I5 (x3.f.trans x5)
end
end DL

namespace DL
open PySem PySem.Spec PyProof.Rows L2
section
variable {X : Cx} {G : Gx}

/-! ### comprehensions -/
@[simp] def wipeE (e : Lcs) : List Nat → Lcs
  | [] => e
  | v :: vs => (wipeE e vs).set v .un
theorem IE.wipe1 {w : Wd} {e : Lcs} {s : Sto} {σ : L2.St} {H : Hp} (I : IE G w e s σ H) (i : Nat) : IE G w (e.set i .un) s (σ.set i none) H := by
  have nf : ∀ {j : Nat} {z : Slt}, z ≠ .un → (e.set i .un)[j]? = some z → i ≠ j ∧ e[j]? = some z := fun {j z} hz h => by
    by_cases q : i = j
    · subst q
      by_cases hi : i < e.length
      · rw [List.getElem?_set_self hi] at h; cases h; exact absurd rfl hz
      · rw [List.getElem?_eq_none (by rw [List.length_set]; omega)] at h; cases h
    · rw [List.getElem?_set_ne q] at h; exact ⟨q, h⟩
  refine ⟨by rw [List.length_set, List.length_set]; exact I.len, fun j d h => ?_, fun j ds h => ?_, fun a b q es fs k1 k2 k3 k4 => ?_, I.slen, I.cells, I.nd, I.dis, I.beg, I.o0, I.there, I.keep, I.cfresh⟩
  · obtain ⟨q, h'⟩ := nf (by simp) h
    rw [List.getElem?_set_ne q]
    exact I.slot j d h'
  · obtain ⟨q, h'⟩ := nf (by simp) h
    rw [List.getElem?_set_ne q]
    exact I.own j ds h'
  · obtain ⟨q1, h1⟩ := nf (by simp) k1
    obtain ⟨q2, h2⟩ := nf (by simp) k2
    rw [List.getElem?_set_ne q1] at k3
    rw [List.getElem?_set_ne q2] at k4
    exact I.inj a b q es fs h1 h2 k3 k4
theorem IE.wipe {w : Wd} {e : Lcs} {s : Sto} {σ : L2.St} {H : Hp} (I : IE G w e s σ H) : ∀ vs : List Nat, IE G w (wipeE e vs) s (wipe σ vs) H
  | [] => I
  | v :: vs => (IE.wipe I vs).wipe1 v
theorem wipe_get {σ : L2.St} {i : Nat} : ∀ {vs : List Nat}, i ∉ vs → (wipe σ vs)[i]? = σ[i]?
  | [], _ => rfl
  | v :: vs, h => by
    unfold L2.wipe
    rw [List.getElem?_set_ne fun (z : v = i) => h (by rw [z]; simp)]
    exact wipe_get fun z => h (List.mem_cons_of_mem _ z)
theorem wipe_in {σ : L2.St} {i : Nat} (hi : i < σ.length) : ∀ {vs : List Nat}, i ∈ vs → (wipe σ vs)[i]? = some none
  | v :: vs, h => by
    unfold L2.wipe
    by_cases z : v = i
    · subst z
      rw [List.getElem?_set_self (by rw [wipe_length]; exact hi)]
    · rw [List.getElem?_set_ne z]
      exact wipe_in hi ((List.mem_cons.mp h).resolve_left fun q => z q.symm)
theorem wipe_eq {σ σ' : L2.St} {vs : List Nat} (hl : σ'.length = σ.length) (h : ∀ i, i ∉ vs → σ'[i]? = σ[i]?) : wipe σ' vs = wipe σ vs := by
  apply List.ext_getElem?
  intro i
  by_cases hi : i ∈ vs
  · by_cases hl' : i < σ.length
    · rw [wipe_in hl' hi, wipe_in (by rw [hl]; exact hl') hi]
    · rw [List.getElem?_eq_none (by rw [wipe_length, hl]; omega), List.getElem?_eq_none (by rw [wipe_length]; omega)]
  · rw [wipe_get hi, wipe_get hi, h i hi]
@[simp] def lcL (F : FG) (C : FT) (Fe : FE) (e : Lcs) : List Dat → Sto → Res (List Dat)
  | [], s => .ok [] s
  | d :: ds, s => (F d e s).noex.bind fun e1 s1 => (C e1 s1).noex.bind fun b s2 => if b then (Fe e1 s2).noex.bind fun y s3 => (lcL F C Fe e ds s3).bind fun ys s4 => .ok (y :: ys) s4 else lcL F C Fe e ds s2
@[simp] def fLc (Fi : FA) (F : FG) (C : FT) (Fe : FE) (vs : List Nat) : FE := fun e s => (Fi e s).bind fun ds s1 => if decide (ds.length < sizeLine) then (lcL F C Fe (wipeE e vs) ds s1).bind fun ys s2 => .ok (.list ys) s2 else .bad
@[simp] def cYes : FT := fun _ s => .ok true s
theorem dt_yes {σ : L2.St} {H : Hp} {Q : Bool → Hp → Prop} (h : tT G cYes σ H Q) : tYes σ H Q := by
  obtain ⟨w, e, s, I, h⟩ := h
  exact h w H I .refl
theorem PTs_imp {a : List Expr} {t t' : TT} (h : PTs X a t) (k : ∀ σ H Q, t' σ H Q → t σ H Q) : PTs X a t' := ⟨fun pins s σ H Q I q => h.run pins s σ H Q I (k _ _ _ q)⟩
theorem dts_nil : PTs X [] (tT G cYes) := PTs_imp pts_nil fun _ _ _ h => dt_yes h
theorem dts_one {c : Expr} {C : FT} (h : PT X c (tT G C)) : PTs X [c] (tT G C) := pts_one h
theorem lc_of {Fi : FA} {F : FG} {C : FT} {Fe : FE} {vs is : List Nat} (his : ∀ i ∈ is, i ∈ vs) {σ : L2.St} {H : Hp} {Q : VK} (h : tE G (fLc Fi F C Fe vs) σ H Q) : tLc (tI G Fi) (tG G is F) (tT G C) (tE G Fe) vs σ H Q := by
  obtain ⟨w, e, s, I, h⟩ := h
  refine ⟨w, e, s, I, holds_imp (holds_bind h) fun ds s1 h1 w1 H1 J I1 x1 W D hD => ?_⟩
  have hz : ds.length < sizeLine := by
    by_cases q : ds.length < sizeLine
    · exact q
    · rw [if_neg (by simpa using q)] at h1
      exact h1.elim
  rw [if_pos (by simpa using hz)] at h1
  -- the new list is the loop's own
  have lone : Lone (wipeE e vs) (wipe σ vs) D := (I1.wipe vs).lone hD
  have d0 : G.H0 D = none := I1.fresh0 hD
  have dn : ¬ w1.ow D := I1.freshO hD
  have d00 : ¬ G.O0 D := I1.freshO0 hD
  have I2 : IE G (w1.plus D) (wipeE e vs) s1 (wipe σ vs) (upd H1 D (.lst [])) := (I1.wipe vs).plus hD
  refine ⟨fun i m H2 => m = ds.length - i ∧ i ≤ ds.length ∧ ∃ w2 s2 acc avs, IE G w2 (wipeE e vs) s2 (wipe σ vs) H2 ∧ FExt w1 H1 w2 H2 ∧ w2.ow = (w1.plus D).ow ∧ (∀ a, w1.ow a → H2 a = H1 a) ∧ H2 D = some (.lst avs) ∧ RpL G.K w2.as (Fz w2 H2) acc avs ∧ acc.length ≤ i ∧
      (lcL F C Fe (wipeE e vs) (ds.drop i) s2).holds (fun ys s3 => kE G w1 e σ H1 Q (.list (acc ++ ys)) s3) (kX G w1 e σ H1),
    ⟨ds.length, by omega, Nat.zero_le _, w1.plus D, s1, [], [], I2, plus_f hD, rfl, fun a ha => upd_ne fun (z : a = D) => dn (by rw [← z]; exact ha), upd_same, RpL.nil, Nat.le_refl _, ?_⟩, ?_⟩
  · refine holds_imp (holds_bind h1) fun ys s2 h2 => ?_
    exact kE_ext x1 h2
  rintro i m H2 ⟨rfl, hi, w2, s2, acc, avs, J2, x2, o2, k2, hD2, ra, la, q⟩
  have owD : w2.ow D := by rw [o2]; exact .inr rfl
  by_cases hlt : i < ds.length
  · refine .inr ⟨W.go w2 H2 x2 i hlt, fun H3 => ∃ w3 s3 acc avs, IE G w3 (wipeE e vs) s3 (wipe σ vs) H3 ∧ FExt w1 H1 w3 H3 ∧ w3.ow = (w1.plus D).ow ∧ (∀ a, w1.ow a → H3 a = H1 a) ∧ H3 D = some (.lst avs) ∧ RpL G.K w3.as (Fz w3 H3) acc avs ∧ acc.length ≤ i + 1 ∧
        (lcL F C Fe (wipeE e vs) (ds.drop (i + 1)) s3).holds (fun ys s4 => kE G w1 e σ H1 Q (.list (acc ++ ys)) s4) (kX G w1 e σ H1), fun H3 k => ⟨ds.length - (i + 1), by omega, rfl, hlt, k⟩, fun v H3 y => ?_⟩
    obtain ⟨J3, x3, d, hd, rd⟩ := W.yld w2 _ s2 _ H2 H3 i v J2 x2 hlt y
    have ed : ds.drop i = d :: ds.drop (i + 1) := by
      rw [List.drop_eq_getElem_cons hlt]
      rw [List.getElem?_eq_getElem hlt] at hd
      cases hd
      rfl
    rw [ed] at q
    unfold lcL at q
    -- what is true behind any expression of the turn
    have on : ∀ {w5 : Wd} {H5 : Hp}, EExt w2 H2 w5 H5 → FExt w1 H1 w5 H5 ∧ w5.ow = (w1.plus D).ow ∧ (∀ a, w1.ow a → H5 a = H1 a) ∧ H5 D = some (.lst avs) ∧ RpL G.K w5.as (Fz w5 H5) acc avs := fun {w5 H5} x =>
      ⟨x2.trans x.f, x.ow.trans o2, fun a ha => (x.own a (by rw [o2]; exact .inl ha)).trans (k2 a ha), (x.own D owD).trans hD2, x.rpl ra⟩
    refine ⟨w2, wipeE e vs, s2, d, J3, rd, holds_imp (holds_noex (holds_bind q) _) fun e4 s4 h4 w4 σ4 H4 I4 x4 a4 l4 => ?_⟩
    have hw : wipe σ4 vs = wipe σ vs := by
      have e1 : wipe σ4 vs = wipe (wipe σ vs) vs := wipe_eq l4 fun j hj => a4 j fun z => hj (his j z)
      have e2 : wipe (wipe σ vs) vs = wipe σ vs := wipe_eq (wipe_length σ vs) fun j hj => wipe_get hj
      exact e1.trans e2
    refine ⟨hw, w4, e4, s4, I4, holds_imp (holds_noex (holds_bind h4) _) fun b s5 h5 w5 H5 I5 x5 => ?_⟩
    have x25 := x3.trans (x4.trans x5)
    cases b with
    | true =>
      simp only [if_true] at h5
      refine iteT ⟨w5, e4, s5, I5, holds_imp (holds_noex (holds_bind h5) _) fun y s6 h6 w6 yv H6 I6 x6 r6 => ?_⟩
      have x26 := x25.trans x6
      obtain ⟨g1, g2, g3, g4, g5⟩ := on x26
      refine ⟨avs, g4, by rw [ra.length]; omega, ?_⟩
      have J6 : IE G w6 (wipeE e vs) s6 (wipe σ vs) H6 := J2.re x26 I6
      have ow6 : w6.ow D := by rw [g2]; exact .inr rfl
      refine ⟨w6, s6, acc ++ [y], avs ++ [yv], J6.write ow6 d0 lone, g1.trans (write_f ow6), g2, fun a ha => ?_, upd_same, ?_, by simp; omega, ?_⟩
      · rw [upd_ne fun (z : a = D) => dn (by rw [← z]; exact ha)]
        exact g3 a ha
      · rw [Fz_own ow6]
        exact g5.append (RpL.one r6)
      · refine holds_imp (holds_bind h6) fun ys s7 h7 => ?_
        have h7' : kE G w1 e σ H1 Q (.list (acc ++ (y :: ys))) s7 := h7
        rw [List.append_assoc]
        exact h7'
    | false =>
      simp only [Bool.false_eq_true, if_false] at h5
      obtain ⟨g1, g2, g3, g4, g5⟩ := on x25
      exact iteF ⟨w5, s5, acc, avs, J2.re x25 I5, g1, g2, g3, g4, g5, by omega, h5⟩
  · have e0 : ds.drop i = [] := List.drop_eq_nil_of_le (by omega)
    rw [e0] at q
    refine .inl ⟨W.stop w2 H2 x2 i (by omega), ?_⟩
    have q' : kE G w1 e σ H1 Q (.list (acc ++ [])) s2 := q
    rw [List.append_nil] at q'
    -- the list is no one's own any more
    have sm2 : Same (Fz w2 H2) (Fz ⟨w2.as, w1.ow⟩ H2) := fun a o h => by
      obtain ⟨z1, z2, z3⟩ := Fz_get h
      exact Fz_of z1 z2 fun z => z3 (by rw [o2]; exact .inl z)
    have ex : EExt w1 H1 ⟨w2.as, w1.ow⟩ H2 := ⟨x2.beg, x2.same.trans sm2, rfl, k2⟩
    have J : IE G ⟨w2.as, w1.ow⟩ (wipeE e vs) s2 (wipe σ vs) H2 := by
      refine ⟨J2.len, fun j d h => ?_, fun j es h => ?_, J2.inj, J2.slen, fun n es h => ?_, J2.nd, fun a ha z => J2.dis a ha (by rw [o2]; exact .inl z), J2.beg, fun a ha => ?_, fun a ha => J2.there a (by rw [o2]; exact .inl ha), J2.keep, J2.cfresh⟩
      · obtain ⟨v, z1, z2⟩ := J2.slot j d h
        exact ⟨v, z1, Rp.mono (.refl _) sm2 _ _ z2⟩
      · obtain ⟨p, us, z1, z2, z3, z4, z5, z6⟩ := J2.own j es h
        refine ⟨p, us, z1, ?_, z3, z4, z5, CR.mono (.refl _) sm2 z6⟩
        rw [o2] at z2
        rcases z2 with z2 | z2
        · exact z2
        · subst z2; exact absurd z1 (lone j es h)
      · obtain ⟨a, us, z1, z2, z3⟩ := J2.cells n es h
        exact ⟨a, us, z1, z2, CR.mono (.refl _) sm2 z3⟩
      · exact I1.o0 a ha
    refine q' ⟨w2.as, w1.ow⟩ (.ref D) H2 (I1.re ex J) ex ?_
    simp only [Rp]
    exact ⟨D, avs, rfl, Fz_of hD2 (fun z => J2.dis D z owD) dn, RpL.mono (.refl _) sm2 _ _ ra⟩
theorem de_lc {elt tg iter : Expr} {ifs : List Expr} {scope : Scope} {own : List (Str × Nat)} {pos : Pos} {Fi : FA} {F : FG} {C : FT} {Fe : FE} {is : List Nat} (hc : X.calm = true) (hN : X.N.Nodup) (ok : BlkOk X.N X.env.scope scope own) (hi : PI X tg iter (tI G Fi))
    (hg : ∀ (s : Shared) (H : Hp) (A : Addr) (cl : List (Str × Addr)) (fp : List Addr), PG (X.blk s H scope (compEnvC scope cl A X.env) fp) tg (tG G is F)) (ht : ∀ (s : Shared) (H : Hp) (A : Addr) (cl : List (Str × Addr)) (fp : List Addr), PTs (X.blk s H scope (compEnvC scope cl A X.env) fp) ifs (tT G C))
    (he : ∀ (s : Shared) (H : Hp) (A : Addr) (cl : List (Str × Addr)) (fp : List Addr), PE (X.blk s H scope (compEnvC scope cl A X.env) fp) elt (tE G Fe)) (his : ∀ i ∈ is, i ∈ own.map (·.2) := by decide) (hs : ∀ x, foldedSetIterable iter X.env x = pure x := by intro _; rfl) :
    PE X (.ListComp elt [⟨tg, iter, ifs, 0⟩] scope pos) (tE G (fLc Fi F C Fe (own.map (·.2)))) := PE_imp (pe_lc hc hN hi ok hg ht he hs) fun _ _ _ h => lc_of his h
theorem ds_setLc (i : Nat) {y : Str} {py : Pos} {elt tg iter : Expr} {ifs : List Expr} {scope : Scope} {own : List (Str × Nat)} {pos spos : Pos} {Fi : FA} {F : FG} {C : FT} {Fe : FE} {is : List Nat} (hc : X.calm = true) (hN : X.N.Nodup) (ok : BlkOk X.N X.env.scope scope own)
    (hsw : swapsWith (.ListComp elt [⟨tg, iter, ifs, 0⟩] scope pos) (some (.Name y py)) spos.line X.env = pure true) (hi : PI X tg iter (tI G Fi))
    (hg : ∀ (s : Shared) (H : Hp) (A : Addr) (cl : List (Str × Addr)) (fp : List Addr), PG (X.blk s H scope (compEnvC scope cl A X.env) fp) tg (tG G is F)) (ht : ∀ (s : Shared) (H : Hp) (A : Addr) (cl : List (Str × Addr)) (fp : List Addr), PTs (X.blk s H scope (compEnvC scope cl A X.env) fp) ifs (tT G C))
    (he : ∀ (s : Shared) (H : Hp) (A : Addr) (cl : List (Str × Addr)) (fp : List Addr), PE (X.blk s H scope (compEnvC scope cl A X.env) fp) elt (tE G Fe)) (hy : X.N[i]? = some y := by rfl) (hyl : X.env.scope.names.lookup y = some .local := by rfl)
    (his : ∀ i ∈ is, i ∈ own.map (·.2) := by decide) (hs : ∀ x, foldedSetIterable iter X.env x = pure x := by intro _; rfl) :
    PS X (.Assign [.Name y py] (.ListComp elt [⟨tg, iter, ifs, 0⟩] scope pos) spos) (tS G (sSet i (fLc Fi F C Fe (own.map (·.2))))) :=
  PS_imp (ps_setLc hc hN hy hyl hsw hi ok hg ht he hs) fun D σ H h => by
    obtain ⟨w, e, s, I, h'⟩ := tAsg_of (is := [i]) h
    exact lc_of his ⟨w, e, s, I, holds_imp h' fun d s1 k w1 v H1 I1 x1 r1 => gName_of (k w1 v H1 I1 x1 r1) (by simp)⟩

/-! ### defs -/
structure CI (xc : Xc) (K : PySem.W.Frag) (w : Wd) (s : Sto) (H : Hp) : Prop where
  slen : w.as.length = s.length
  cells : ∀ (n : Nat) c, s[n]? = some c → ∃ a ho, w.as[n]? = some a ∧ H a = some ho ∧ CR xc K w.as (Fz w H) c ho
  nd : w.as.Nodup
  dis : ∀ a ∈ w.as, ¬ w.ow a
  there : ∀ a, w.ow a → H a ≠ none
/-- how a call leaves the heap -/
structure Aft (xc : Xc) (K : PySem.W.Frag) (w : Wd) (H : Hp) (w' : Wd) (s' : Sto) (H' : Hp) : Prop where
  ow : w'.ow = w.ow
  beg : Beg w.as w'.as
  ci : CI xc K w' s' H'
  same : Same (Fz w H) (Fz w' H')
  kept : ∀ a o, H a = some o → a ∉ w.as → H' a = some o
  fresh : ∀ a, a ∈ w'.as → a ∉ w.as → H a = none
/-- a def that hands back what g says of its arguments and the cells, or raises what g says -/
def spX (K : PySem.W.Frag) (xc : Xc) (g : List Dat → Sto → Res Dat) : Sp := fun vs H Q E => ∃ w ds s, CI xc K w s H ∧ RpL K w.as (Fz w H) ds vs ∧ (g ds s).holds (fun d s' => ∀ w' v H', Aft xc K w H w' s' H' → Rp K w'.as (Fz w' H') d v → Q v H')
  fun x s' => ∀ w' H' cls d, Aft xc K w H w' s' H' → ExR K xc w'.as (Fz w' H') x cls d → E cls d H'
def noX : Xc := {}
abbrev spF (K : PySem.W.Frag) (g : List Dat → Sto → Res Dat) : Sp := spX K noX g
theorem IE.ci {w : Wd} {e : Lcs} {s : Sto} {σ : L2.St} {H : Hp} (I : IE G w e s σ H) : CI G.xc G.K w s H := ⟨I.slen, I.cells, I.nd, I.dis, I.there⟩
@[simp] def runF (n m : Nat) (F : FS) : List Dat → Sto → Res Dat := fun ds s => if ds.length = n then (match F (ds.map Slt.fz ++ List.replicate (m - n) Slt.un) s with
  | .nx _ s' => .ok .none s'
  | .rt d s' => .ok d s'
  | .ex x _ s' => .ex x s'
  | _ => .bad) else .bad
/-- back from a call -/
theorem IE.back {G : Gx} {w1 w2 : Wd} {e : Lcs} {s1 s2 : Sto} {σ : L2.St} {H1 H2 : Hp} (I1 : IE G w1 e s1 σ H1) (af : Aft G.xc G.K w1 H1 w2 s2 H2) : IE G w2 e s2 σ H2 ∧ EExt w1 H1 w2 H2 := by
  obtain ⟨o2, b2, c2, sm2, kp2, nw2⟩ := af
  have ex : EExt w1 H1 w2 H2 := ⟨b2, sm2, o2, fun b hb => by
    cases z : H1 b with
    | none => exact absurd z (I1.there b hb)
    | some o => exact kp2 b o z fun y => I1.dis b y hb⟩
  refine ⟨I1.re ex (e2 := []) (σ2 := []) ⟨rfl, fun i d h => by simp at h, fun i d h => by simp at h, fun i j p ds es h => by simp at h, c2.slen, c2.cells, c2.nd, c2.dis, I1.beg.trans b2, fun b hb => by rw [o2]; exact I1.o0 b hb, c2.there, fun b o h0 hb => ?_, fun b hb hb0 => ?_⟩, ex⟩
  · refine kp2 b o (I1.keep b o h0 hb) fun z => ?_
    have := I1.cfresh b z hb
    rw [h0] at this; cases this
  · by_cases z : b ∈ w1.as
    · exact I1.cfresh b z hb0
    · exact I1.fresh0 (nw2 b hb z)
/-- the call of a def, nothing raised -/
@[simp] def fCallD (g : List Dat → Sto → Res Dat) (Fs : FA) : FE := fun e s => (Fs e s).bind fun ds s1 => (g ds s1).noex
theorem de_call {x : Str} {p pos : Pos} {a : Expr} {es : List Expr} {CX : CXT} {k : Nat} {f : Addr} {fd : FuncData} {ps : List Str} {g : List Dat → Sto → Res Dat} {Fs : FA} {E : XK} (GF : FnOk X.prog X.w X.K X.mg X.base CX k f fd ps (spX G.K G.xc g)) (hr : Room k X.A)
    (hm : X.mg x = some (.ref f)) (hk : PySem.W.keepIn X.K (.ref f) = true) (hb : Binds X.K fd ps []) (hx : Passes CX X E) (ha : PA X (a :: es) (tA G Fs)) (hg : Gl X x := by rfl) (hdb : (x == ("__debug__" : Str)) = false := by decide)
    (he : starEach (a :: es) X.env = (false, eval a X.env) :: starEach es X.env := by rfl) (hpl : (backTo pos (starEach es X.env)).any (·.1) = false := by rfl) : PE X (.Call (.Name x p) (a :: es) [] pos) (tE G (fCallD g Fs)) :=
  PE_imp (pe_call GF hr hg hm hk hb .nil hx ha hdb he hpl) fun σ H Q ⟨w, e, s, I, h⟩ => by
    unfold fCallD at h
    refine ⟨w, e, s, I, holds_imp (holds_bind h) fun ds s1 h1 w1 vs H1 I1 x1 r1 => ?_⟩
    refine ⟨w1, ds, s1, I1.ci, by rw [List.append_nil]; exact r1, holds_imp (holds_noex h1 (fun _ _ => False)) (fun d s2 h2 w2 v H2 af r2 => ?_) fun _ _ z => z.elim⟩
    obtain ⟨J, ex⟩ := I1.back af
    exact h2 w2 v H2 J (x1.trans ex) r2
/-- no exception is waited for -/
theorem passN {P : Program} {w : World} : Passes (L2.CX P w) X (fun _ _ _ => False) := fun _ _ _ _ _ _ _ h => by
  obtain ⟨_, _, _, _, _, _, _, _, _, _, _, _, f⟩ := h
  exact f.elim
/-- the call of a def that may raise -/
theorem de_callR {x : Str} {p pos : Pos} {a : Expr} {es : List Expr} {k : Nat} {f : Addr} {fd : FuncData} {ps : List Str} {g : List Dat → Sto → Res Dat} {Fs : FA} (GF : FnOk X.prog X.w X.K X.mg X.base (L2.CX X.prog X.w) k f fd ps (spX G.K G.xc g)) (hr : Room k X.A)
    (hm : X.mg x = some (.ref f)) (hk : PySem.W.keepIn X.K (.ref f) = true) (hb : Binds X.K fd ps []) (tk : Takes X G.W) (ha : PA X (a :: es) (tA G Fs)) (hg : Gl X x := by rfl) (hdb : (x == ("__debug__" : Str)) = false := by decide)
    (he : starEach (a :: es) X.env = (false, eval a X.env) :: starEach es X.env := by rfl) (hpl : (backTo pos (starEach es X.env)).any (·.1) = false := by rfl) :
    PE X (.Call (.Name x p) (a :: es) [] pos) (tE G (fCall g Fs)) :=
  PE_imp (pe_callS GF hr hg hm hk hb (fun σ => passAt tk σ) ha hdb he hpl) fun σ H Q ⟨w, e, s, I, h⟩ => by
    unfold fCall at h
    refine ⟨w, e, s, I, holds_imp (holds_bind h) fun ds s1 h1 w1 vs H1 I1 x1 r1 => ?_⟩
    refine ⟨w1, ds, s1, I1.ci, r1, holds_imp h1 (fun d s2 h2 w2 v H2 af r2 => ?_) fun y s2 h2 w2 H2 cls d af r2 => ?_⟩
    · obtain ⟨J, ex⟩ := I1.back af
      exact h2 w2 v H2 J (x1.trans ex) r2
    · obtain ⟨J, ex⟩ := I1.back af
      exact h2 w2 H2 cls d J (x1.trans ex) r2
theorem start_get {N : List Str} {vs : List V} {i : Nat} {v : V} (h : vs[i]? = some v) : (L2.start N vs)[i]? = some (some v) := by
  unfold L2.start
  rw [List.getElem?_append_left (by rw [List.length_map]; exact (List.getElem?_eq_some_iff.mp h).1), List.getElem?_map, h]; rfl
theorem ie_start {xc : Xc} {W : L2.WX} {K : PySem.W.Frag} {w : Wd} {s : Sto} {H : Hp} {N : List Str} {ds : List Dat} {vs : List V} (c : CI xc K w s H) (r : RpL K w.as (Fz w H) ds vs) (hl : ds.length ≤ N.length) :
    IE ⟨K, H, w.as, w.ow, xc, W⟩ w (ds.map Slt.fz ++ List.replicate (N.length - ds.length) Slt.un) s (L2.start N vs) H := by
  have look : ∀ {i : Nat} {z : Slt}, (ds.map Slt.fz ++ List.replicate (N.length - ds.length) Slt.un)[i]? = some z → z = .un ∨ ∃ d, z = .fz d ∧ ds[i]? = some d := fun {i z} h => by
    by_cases hi : i < ds.length
    · rw [List.getElem?_append_left (by rw [List.length_map]; exact hi), List.getElem?_map, List.getElem?_eq_getElem hi] at h
      cases h
      exact .inr ⟨_, rfl, List.getElem?_eq_getElem hi⟩
    · rw [List.getElem?_append_right (by rw [List.length_map]; omega), List.getElem?_replicate] at h
      split at h
      · cases h; exact .inl rfl
      · cases h
  refine ⟨?_, fun i d h => ?_, fun i es h => ?_, fun i j p es fs h => ?_, c.slen, c.cells, c.nd, c.dis, .refl _, fun _ h => h, c.there, fun _ _ h _ => h, fun a h h' => absurd h h'⟩
  · unfold L2.start
    rw [List.length_append, List.length_append, List.length_map, List.length_map, List.length_replicate, List.length_replicate, r.length]
  · rcases look h with z | ⟨d', z, h'⟩
    · cases z
    · cases z
      obtain ⟨v, h1, h2⟩ := r.get' h'
      exact ⟨v, start_get h1, h2⟩
  · rcases look h with z | ⟨d', z, _⟩ <;> cases z
  · rcases look h with z | ⟨d', z, _⟩ <;> cases z
/-- behind the body: the def's own lists stand still -/
theorem aft_end {K : PySem.W.Frag} {H : Hp} {w : Wd} {xc : Xc} {W : L2.WX} {e' : Lcs} {s' : Sto} {σ' : L2.St} {w' : Wd} {H' : Hp} (J : IE ⟨K, H, w.as, w.ow, xc, W⟩ w' e' s' σ' H') : Aft xc K w H ⟨w'.as, w.ow⟩ s' H' ∧ Same (Fz w' H') (Fz ⟨w'.as, w.ow⟩ H') := by
  have sm : Same (Fz w' H') (Fz ⟨w'.as, w.ow⟩ H') := fun a o h => by
    obtain ⟨z1, z2, z3⟩ := Fz_get h
    exact Fz_of z1 z2 fun z => z3 (J.o0 a z)
  have kp : ∀ a o, H a = some o → a ∉ w.as → H' a = some o := J.keep
  refine ⟨⟨rfl, J.beg, ⟨J.slen, fun n es h => ?_, J.nd, fun a ha z => J.dis a ha (J.o0 a z), fun a ha => J.there a (J.o0 a ha)⟩, fun a o h => ?_, kp, J.cfresh⟩, sm⟩
  · obtain ⟨a, us, z1, z2, z3⟩ := J.cells n es h
    exact ⟨a, us, z1, z2, CR.mono (.refl _) sm z3⟩
  · obtain ⟨z1, z2, z3⟩ := Fz_get h
    refine Fz_of (kp a o z1 z2) (fun z => ?_) z3
    have := J.cfresh a z z2
    have z1' : H a = some o := z1
    rw [show H a = none from this] at z1'
    cases z1'
theorem ExR.mono {K : PySem.W.Frag} {xc : Xc} {as : List Addr} {F F' : Hp} {x : Dat} {cls : Value} {d : Option Addr} (sm : Same F F') (h : ExR K xc as F x cls d) : ExR K xc as F' x cls d := by
  obtain ⟨nm, fds, C, fns, dd, vs, h1, h2, h3, h4, h5, h6, h7⟩ := h
  exact ⟨nm, fds, C, fns, dd, vs, h1, h2, h3, h4, sm _ _ h5, h6, RpL.mono (.refl _) sm _ _ h7⟩
theorem run_len {K : PySem.W.Frag} {xc : Xc} {n m : Nat} {F : FS} {vs : List V} {H : Hp} {Q : VK} {E : XK} (h : spX K xc (runF n m F) vs H Q E) : vs.length = n := by
  obtain ⟨w, ds, st0, c, r, h⟩ := h
  unfold runF at h
  split at h
  · rename_i hd
    rw [r.length]; exact hd
  · exact h.elim
theorem run_body {K : PySem.W.Frag} {xc : Xc} {N ps : List Str} {F : FS} {vs : List V} {H : Hp} {Q : VK} {E : XK} (hl : ps.length ≤ N.length) (h : spX K xc (runF ps.length N.length F) vs H Q E) :
    ∃ as0 O0, tS ⟨K, H, as0, O0, xc, fun cls d _ H' => E cls d H'⟩ F { nx := fun _ H' => Q V.non H', rt := Q } (L2.start N vs) H := by
  have hv := run_len h
  obtain ⟨w, ds, st0, c, r, h⟩ := h
  have hd : ds.length = ps.length := by rw [← r.length]; exact hv
  unfold runF at h
  rw [if_pos hd] at h
  have I := ie_start (xc := xc) (W := fun cls d _ H' => E cls d H') (N := N) c r (by rw [hd]; exact hl)
  rw [hd] at I
  refine ⟨w.as, w.ow, w, _, st0, I, ?_⟩
  cases q : F (ds.map Slt.fz ++ List.replicate (N.length - ps.length) Slt.un) st0 with
  | bad => rw [q] at h; exact h
  | nx e1 s1 =>
    rw [q] at h
    intro w1 σ1 H1 I1 x1
    obtain ⟨af, sm⟩ := aft_end I1
    exact h _ _ _ af rp_n
  | bk e1 s1 => rw [q] at h; exact h.elim
  | ct e1 s1 => rw [q] at h; exact h.elim
  | rt d s1 =>
    rw [q] at h
    intro w1 e1 σ1 v H1 I1 x1 r1
    obtain ⟨af, sm⟩ := aft_end I1
    exact h _ _ _ af (Rp.mono (.refl _) sm _ _ r1)
  | ex y e1 s1 =>
    rw [q] at h
    intro w1 σ1 H1 cls d I1 x1 r1
    obtain ⟨af, sm⟩ := aft_end I1
    exact h _ _ _ _ af (r1.mono sm)
/-- a def that lets out none -/
@[simp] def runN (n m : Nat) (F : FS) : List Dat → Sto → Res Dat := fun ds s => (runF n m F ds s).noex
theorem runN_len {K : PySem.W.Frag} {xc : Xc} {n m : Nat} {F : FS} {vs : List V} {H : Hp} {Q : VK} {E : XK} (h : spX K xc (runN n m F) vs H Q E) : vs.length = n := by
  obtain ⟨w, ds, st0, c, r, h⟩ := h
  exact run_len (E := fun _ _ _ => True) ⟨w, ds, st0, c, r, holds_imp (holds_noex h fun _ _ => True) (fun _ _ z => z) fun _ _ _ _ _ _ _ _ _ => trivial⟩
theorem run_bodyN {K : PySem.W.Frag} {xc : Xc} {N ps : List Str} {F : FS} {vs : List V} {H : Hp} {Q : VK} {E : XK} (hl : ps.length ≤ N.length) (h : spX K xc (runN ps.length N.length F) vs H Q E) :
    ∃ as0 O0, tS ⟨K, H, as0, O0, xc, fun _ _ _ _ => False⟩ F { nx := fun _ H' => Q V.non H', rt := Q } (L2.start N vs) H := by
  obtain ⟨w, ds, st0, c, r, h⟩ := h
  exact run_body (E := fun _ _ _ => False) hl ⟨w, ds, st0, c, r, holds_imp (holds_noex h fun _ _ => False) (fun _ _ z => z) fun _ _ z => z.elim⟩
/-- THE RULE for a def that lets out no exception -/
theorem def_ok {P : Program} {wd : World} {K : PySem.W.Frag} {mg : Str → Option Value} {base : Heap} {x qual : Str} {st : Stmt} {f : Addr} {fd : FuncData} {N ps : List Str} {k : Nat} {F : FS} {xc : Xc} (D : Fun K x qual st f fd) (S : FnScope N ps (defScope st)) (hl : ps.length ≤ N.length)
    (hbody : ∀ (cdv : Value) (A : Around) (outer : List Env) (s : Shared) (H : Hp) (E : XK) (H0 : Hp) (as0 : List Addr) (O0 : Addr → Prop), Room k (A.deeper (envOfC qual (defScope st) s.heap.objs.size f cdv)) → PSs (cxOf CX0 P wd K mg base N qual (defScope st) f cdv A outer s H E).nox (defBody st) (tS ⟨K, H0, as0, O0, xc, fun _ _ _ _ => False⟩ F)) :
    FnOk P wd K mg base CX0 (k + 1) f fd ps (spX K xc (runN ps.length N.length F)) := by
  refine D.ok S (fun vs H Q E h => runN_len h) fun cdv A outer s H vs Q E hr h => ?_
  obtain ⟨as0, O0, q⟩ := run_bodyN hl h
  exact ⟨_, hbody cdv A outer s H E H as0 O0 hr, q⟩
/-- and for one that may let out one -/
theorem def_okX {P : Program} {wd : World} {K : PySem.W.Frag} {mg : Str → Option Value} {base : Heap} {x qual : Str} {st : Stmt} {f : Addr} {fd : FuncData} {N ps : List Str} {k : Nat} {F : FS} {xc : Xc} (D : Fun K x qual st f fd) (S : FnScope N ps (defScope st)) (hl : ps.length ≤ N.length)
    (hbody : ∀ (cdv : Value) (A : Around) (outer : List Env) (s : Shared) (H : Hp) (E : XK) (H0 : Hp) (as0 : List Addr) (O0 : Addr → Prop), Room k (A.deeper (envOfC qual (defScope st) s.heap.objs.size f cdv)) → PSs (cxOf (L2.CX P wd) P wd K mg base N qual (defScope st) f cdv A outer s H E) (defBody st) (tS ⟨K, H0, as0, O0, xc, fun cls d _ H' => E cls d H'⟩ F)) :
    FnOk P wd K mg base (L2.CX P wd) (k + 1) f fd ps (spX K xc (runF ps.length N.length F)) := by
  refine D.okX S (fun vs H Q E h => run_len h) fun cdv A outer s H vs Q E hr h => ?_
  obtain ⟨as0, O0, q⟩ := run_body hl h
  exact ⟨_, hbody cdv A outer s H E H as0 O0 hr, q⟩
end
end DL

namespace DL
open PySem PySem.Spec PyProof.Rows L2
section
variable {X : Cx} {G : Gx}

/-! ### cells: lists that several defs share -/
section
variable {w : Wd} {e : Lcs} {s : Sto} {σ : L2.St} {H : Hp}
theorem Fz_cell {p : Addr} {o : HO} (hp : H p = none) : Fz ⟨w.as ++ [p], w.ow⟩ (upd H p o) = Fz w H := by
  funext a
  unfold Fz
  by_cases ha : a = p
  · subst ha
    rw [if_pos (.inl (by simp))]
    split
    · rfl
    · rw [hp]
  · by_cases h : a ∈ w.as ∨ w.ow a
    · rw [if_pos h, if_pos (h.elim (fun q => .inl (List.mem_append_left _ q)) .inr)]
    · rw [if_neg h, if_neg (by
        rintro (q | q)
        · rcases List.mem_append.mp q with q | q
          · exact h (.inl q)
          · exact ha (by simpa using q)
        · exact h (.inr q)), upd_ne ha]
theorem IE.newCell (I : IE G w e s σ H) {p : Addr} {vs : HO} {ds : Cel} (hp : H p = none) (r : CR G.xc G.K w.as (Fz w H) ds vs) : IE G ⟨w.as ++ [p], w.ow⟩ e (s ++ [ds]) σ (upd H p vs) := by
  have ef : Fz ⟨w.as ++ [p], w.ow⟩ (upd H p vs) = Fz w H := Fz_cell hp
  have hb : Beg w.as (w.as ++ [p]) := ⟨[p], rfl⟩
  have hx : ∀ {a : Addr} {u : HO}, H a = some u → upd H p vs a = some u := fun {a u} h => by rw [upd_ne (ne_of_none h hp)]; exact h
  refine ⟨I.len, fun i d h => ?_, fun i ds h => ?_, I.inj, by simp [I.slen], fun n es h => ?_, ?_, fun a ha => ?_, I.beg.trans hb, I.o0, fun a h => ?_, fun a u h h' => hx (I.keep a u h h'), fun a ha h0 => ?_⟩
  · obtain ⟨v, h1, h2⟩ := I.slot i d h
    exact ⟨v, h1, by rw [ef]; exact Rp.mono hb (.refl _) _ _ h2⟩
  · obtain ⟨q, us, h1, h2, h3, h4, h5, h6⟩ := I.own i ds h
    exact ⟨q, us, h1, h2, h3, h4, hx h5, by rw [ef]; exact CR.mono hb (.refl _) h6⟩
  · by_cases hn : n < s.length
    · rw [List.getElem?_append_left hn] at h
      obtain ⟨a, us, h1, h2, h3⟩ := I.cells n es h
      exact ⟨a, us, hb.get h1, hx h2, by rw [ef]; exact CR.mono hb (.refl _) h3⟩
    · rw [List.getElem?_append_right (by omega)] at h
      have hn2 : n = s.length := by
        by_cases q : n - s.length = 0
        · omega
        · rw [List.getElem?_eq_none (by simp; omega)] at h; cases h
      subst hn2
      simp at h
      subst h
      exact ⟨p, vs, by rw [List.getElem?_append_right (by rw [I.slen]; exact Nat.le_refl _)]; simp [I.slen], upd_same, by rw [ef]; exact CR.mono hb (.refl _) r⟩
  · rw [List.nodup_append]
    refine ⟨I.nd, by simp, fun a ha b hb2 z => ?_⟩
    have : b = p := by simpa using hb2
    subst this; subst z
    exact I.freshA hp ha
  · rcases List.mem_append.mp ha with q | q
    · exact I.dis a q
    · have : a = p := by simpa using q
      subst this
      exact I.freshO hp
  · cases z : H a with
    | none => exact absurd z (I.there a h)
    | some u => rw [hx z]; simp
  · rcases List.mem_append.mp ha with q | q
    · exact I.cfresh a q h0
    · have : a = p := by simpa using q
      subst this
      exact I.fresh0 hp
theorem Fz_mem {p : Addr} {o : HO} (hp : p ∈ w.as) : Fz w (upd H p o) = Fz w H := by
  funext a
  unfold Fz
  by_cases h : a ∈ w.as ∨ w.ow a
  · rw [if_pos h, if_pos h]
  · rw [if_neg h, if_neg h]
    exact upd_ne fun z => by subst z; exact h (.inl hp)
theorem IE.writeCell (I : IE G w e s σ H) {n : Nat} {p : Addr} {vs : HO} {ds : Cel} (hn : w.as[n]? = some p) (r : CR G.xc G.K w.as (Fz w H) ds vs) : IE G w e (s.set n ds) σ (upd H p vs) := by
  have hm : p ∈ w.as := List.mem_of_getElem? hn
  have ef : Fz w (upd H p vs) = Fz w H := Fz_mem hm
  have hns : n < s.length := by rw [← I.slen]; exact (List.getElem?_eq_some_iff.mp hn).1
  refine ⟨I.len, fun i d h => ?_, fun i ds h => ?_, I.inj, by rw [List.length_set]; exact I.slen, fun m es h => ?_, I.nd, I.dis, I.beg, I.o0, fun a h => ?_, fun a u h h' => ?_, I.cfresh⟩
  · obtain ⟨v, h1, h2⟩ := I.slot i d h
    exact ⟨v, h1, by rw [ef]; exact h2⟩
  · obtain ⟨q, us, h1, h2, h3, h4, h5, h6⟩ := I.own i ds h
    have : q ≠ p := fun z => by subst z; exact I.dis q hm h2
    exact ⟨q, us, h1, h2, h3, h4, by rw [upd_ne this]; exact h5, by rw [ef]; exact h6⟩
  · by_cases z : n = m
    · subst z
      rw [List.getElem?_set_self hns] at h; cases h
      exact ⟨p, vs, hn, upd_same, by rw [ef]; exact r⟩
    · rw [List.getElem?_set_ne z] at h
      obtain ⟨a, us, h1, h2, h3⟩ := I.cells m es h
      have : a ≠ p := fun y => by
        subst y
        exact z (nd_ix I.nd hn h1)
      exact ⟨a, us, h1, by rw [upd_ne this]; exact h2, by rw [ef]; exact h3⟩
  · by_cases z : a = p
    · subst z; rw [upd_same]; simp
    · rw [upd_ne z]; exact I.there a h
  · have : a ≠ p := fun z => by
      subst z
      have := I.cfresh a hm h'
      rw [h] at this; cases this
    rw [upd_ne this]
    exact I.keep a u h h'
end
/-- x = [..], a cell -/
@[simp] def sCell (i : Nat) (Fs : FA) : FS := fun e s => (Fs e s).flo e fun ds s1 => if i < e.length ∧ ds.length ≤ sizeLine then .nx (e.set i (.fz (cel s1.length))) (s1 ++ [.ls ds]) else .bad
theorem ds_setCell (i : Nat) {y : Str} {es : List Expr} {pos pos' pos2 : Pos} {Fs : FA} (hN : X.N.Nodup) (ha : PA X es (tA G Fs)) (hi : X.N[i]? = some y := by rfl) (hx : Loc X.env.scope y := by first | exact Or.inl rfl | exact Or.inr rfl) (hs : swapsWith (.List es pos2) (some (.Name y pos')) pos.line X.env = pure false := by rfl)
    (hf : X.fn y = true ∨ X.env.scope.names.lookup y = some .local := by first | exact .inl rfl | exact .inr rfl) : PS X (.Assign [.Name y pos'] (.List es pos2) pos) (tS G (sCell i Fs)) :=
  PS_imp (ps_set hN hi hx (pe_lst ha) hs hf) fun D σ H ⟨w, e, s, I, h⟩ => by
    refine ⟨w, e, s, I, holds_imp (flo_holds h) fun ds s1 h1 w1 vs H1 I1 x1 r1 => ?_⟩
    split at h1
    · rename_i c
      refine ⟨by rw [r1.length]; exact c.2, fun p hp => ?_⟩
      refine h1 ⟨w1.as ++ [p], w1.ow⟩ _ _ ((I1.newCell hp (cr_ls r1)).set c.1 ?_) (x1.f.trans ⟨⟨[p], rfl⟩, by rw [Fz_cell hp]; exact .refl _⟩)
      unfold cel
      simp only [Rp]
      refine ⟨p, rfl, ?_⟩
      rw [← I1.slen]
      simp
    · exact h1.elim
/-- x[k] = v, x a cell -/
@[simp] def sItem (Fo Fi Fv : FE) : FS := fun e s => (Fv e s).flo e fun d s1 => (Fo e s1).flo e fun o s2 => (Fi e s2).flo e fun k s3 => match o, k with
  | .dict [(.int n, .none)], .int j => match s3[n.toNat]? with
    | some (.ls ds) => match ixN ds.length j with
      | some m => .nx e (s3.set n.toNat (.ls (ds.set m d)))
      | none => .bad
    | _ => .bad
  | _, _ => .bad
theorem ds_item {o i v : Expr} {pos p2 : Pos} {Fo Fi Fv : FE} (hv : PE X v (tE G Fv)) (ho : PE X o (tE G Fo)) (hi : PE X i (tE G Fi)) (ha : ∀ u, assign (.Subscript o i p2) X.env u = (do
      let ov ← holding [u] (eval o X.env)
      let iv ← holding [u, ov] (eval i X.env)
      standAt p2
      holding [u, ov, iv] (setItem ov iv u)
      release [u, ov, iv] []) := by intro _; rfl) (hs : swapsWithSole [.Subscript o i p2] v pos.line X.env = pure false := by rfl) (hw : swappedStores [.Subscript o i p2] v X.env = pure none := by rfl)
    (h1 : (assignEach [.Subscript o i p2] X.env).map (·.2) = [assign (.Subscript o i p2) X.env] := by rfl) : PS X (.Assign [.Subscript o i p2] v pos) (tS G (sItem Fo Fi Fv)) :=
  PS_imp (ps_asg hv (pg_sub ho hi set_list ha) hs hw h1) fun D σ H ⟨w, e, s, I, h⟩ => by
    refine ⟨w, e, s, I, holds_imp (flo_holds h) fun d s1 h1 w1 dv H1 I1 x1 r1 => ?_⟩
    refine ⟨w1, e, s1, I1, holds_imp (flo_holds h1) fun ov s2 h2 w2 ovv H2 I2 x2 r2 => ?_⟩
    refine ⟨w2, e, s2, I2, holds_imp (flo_holds h2) fun k s3 h3 w3 kv H3 I3 x3 r3 => ?_⟩
    split at h3
    · rename_i n j
      split at h3
      · rename_i ds hds
        split at h3
        · rename_i m hm
          have r2' : ∃ a, ovv = .ref a ∧ w2.as[n.toNat]? = some a := by simpa [Rp] using r2
          obtain ⟨p, rfl, hp⟩ := r2'
          have hp3 := x3.beg.get hp
          obtain ⟨a', vs, e1, e2, e3⟩ := I3.cellL hds
          rw [hp3] at e1; cases e1
          refine ⟨p, vs, j, m, rfl, rp_int r3, e2, by rw [e3.length]; exact hm, ?_⟩
          have rd := (x2.trans x3).rp r1
          exact h3 w3 σ _ (I3.writeCell hp3 (cr_ls (e3.set m rd))) ((x1.trans (x2.trans x3)).f.trans ⟨.refl _, by rw [Fz_mem (List.mem_of_getElem? hp3)]; exact .refl _⟩)
        · exact h3.elim
      · exact h3.elim
    · exact h3.elim

/-! ### a local's own list -/
/-- x = [..], to be grown -/
@[simp] def sOwn (i : Nat) (Fs : FA) : FS := fun e s => (Fs e s).flo e fun ds s1 => if i < e.length ∧ ds.length ≤ sizeLine then .nx (e.set i (.ow (.ls ds))) s1 else .bad
theorem ds_setOwn (i : Nat) {y : Str} {es : List Expr} {pos pos' pos2 : Pos} {Fs : FA} (hN : X.N.Nodup) (ha : PA X es (tA G Fs)) (hi : X.N[i]? = some y := by rfl) (hx : Loc X.env.scope y := by first | exact Or.inl rfl | exact Or.inr rfl) (hs : swapsWith (.List es pos2) (some (.Name y pos')) pos.line X.env = pure false := by rfl)
    (hf : X.fn y = true ∨ X.env.scope.names.lookup y = some .local := by first | exact .inl rfl | exact .inr rfl) : PS X (.Assign [.Name y pos'] (.List es pos2) pos) (tS G (sOwn i Fs)) :=
  PS_imp (ps_set hN hi hx (pe_lst ha) hs hf) fun D σ H ⟨w, e, s, I, h⟩ => by
    refine ⟨w, e, s, I, holds_imp (flo_holds h) fun ds s1 h1 w1 vs H1 I1 x1 r1 => ?_⟩
    split at h1
    · rename_i c
      refine ⟨by rw [r1.length]; exact c.2, fun p hp => ?_⟩
      refine h1 (w1.plus p) _ _ ((I1.plus hp).setOwn c.1 (.inr rfl) (I1.fresh0 hp) (I1.freshO0 hp) (I1.lone hp) upd_same ?_) (x1.f.trans (plus_f hp))
      rw [Fz_plus hp]
      exact cr_ls r1
    · exact h1.elim
/-- x.append(v), x.extend(v) -/
@[simp] def sAppend (i : Nat) (Fa : FE) : FS := fun e s => match e[i]? with
  | some (.ow (.ls ds)) => (Fa e s).flo e fun d s1 => if ds.length < sizeLine then .nx (e.set i (.ow (.ls (ds ++ [d])))) s1 else .bad
  | _ => .bad
theorem tyV_lst {w : Wd} {e : Lcs} {s : Sto} {σ : L2.St} {H : Hp} {K : PySem.W.Frag} {p : Addr} {vs : List V} (h : H p = some (.lst vs)) : tyV K "list" (.ref p) H := Or.inl ⟨rfl, _, Or.inl (Or.inl h)⟩
theorem ds_append (i : Nat) {x : Str} {a : Expr} {px apos cpos pos : Pos} {Fa : FE} (ha : PE X a (tE G Fa)) (hi : X.N[i]? = some x := by rfl) (hx : Vis X.env.scope x := by first | exact Or.inl rfl | exact Or.inr (Or.inl rfl) | exact Or.inr (Or.inr rfl)) (hd : (x == ("__debug__" : Str)) = false := by decide) (hcd : (x == ("__classdict__" : Str)) = false := by decide)
    (hsw : swapsWith (.Call (.Attribute (.Name x px) "append" apos) [a] [] cpos) none pos.line X.env = pure false := by rfl)
    (hbase : attributeBase (.Name x px) "append" X.env (eval (.Name x px) X.env) = eval (.Name x px) X.env := by rfl)
    (hfew : ((backTo cpos (starEach [a] X.env)).all (fun x => !x.1) && (backToKw cpos (keywordEach [] X.env)).all (fun x => x.1.isSome)
      && decide (([a] : List Expr).length + ([] : List Keyword).length + (if ([] : List Keyword).isEmpty then 0 else 1) < 30)) = true := by rfl)
    (hline : (apos.endLine == cpos.line) = true := by rfl) (hs1 : starEach [a] X.env = (false, eval a X.env) :: starEach [] X.env := by rfl) (hplain : (backTo cpos (starEach [] X.env)).any (·.1) = false := by rfl) :
    PS X (.Expr (.Call (.Attribute (.Name x px) "append" apos) [a] [] cpos) pos) (tS G (sAppend i Fa)) :=
  PS_imp (ps_expr (pe_bm PySem.F.plainAttrs_list PySem.F.slot_list_append PySem.F.type_list_append mt_append (pe_var (i := i) hi hx hd hcd) (pa_cons ha pa_nil hs1) hbase hfew hline hs1 hplain) hsw) fun D σ H ⟨w, e, s, I, h⟩ => by
    unfold sAppend at h
    -- the list stands ahead of the argument
    split at h
    · rename_i ds hds
      obtain ⟨p, vs, g1, g2, g3, g4, g5, g6⟩ := I.ownL hds
      refine ⟨.ref p, g1, Or.inl ⟨rfl, _, Or.inl (Or.inl g5)⟩, w, e, s, I, holds_imp (flo_holds h) fun d s1 h1 w1 v H1 I1 x1 r1 => ?_⟩
      split at h1
      · rename_i c
        obtain ⟨p', vs', k1, k2, k3, k4, k5, k6⟩ := I1.ownL hds
        rw [g1] at k1; cases k1
        refine ⟨p, vs', v, rfl, rfl, k5, by rw [k6.length]; exact c, ?_⟩
        refine h1 w1 σ _ (I1.writeOwn hds g1 (cr_ls (k6.append (RpL.one r1)))) (x1.f.trans (write_f k2))
      · exact h1.elim
    · exact h.elim
end
end DL

namespace DL
open PySem PySem.Spec PyProof.Rows L2
section
variable {X : Cx} {G : Gx}
theorem room65 {k : Nat} {A : Around} (hr : Room k A) : A.units + 65 < cLine := by have := hr.un; omega

/-! ### in -/
def rInT (K : PySem.W.Frag) : R2 := fun x y H Q => ∃ d ds, Dp K H x d ∧ Dp K H y (.tuple ds) ∧ SeqAt.shaped d = true ∧ SeqAt.shaped (.tuple ds) = true ∧ Q (.bl (ds.any fun z => PyData.eqv z d)) H
def rNotInT (K : PySem.W.Frag) : R2 := fun x y H Q => ∃ d ds, Dp K H x d ∧ Dp K H y (.tuple ds) ∧ SeqAt.shaped d = true ∧ SeqAt.shaped (.tuple ds) = true ∧ Q (.bl (!ds.any fun z => PyData.eqv z d)) H
theorem op_inT (hu : X.A.units + 65 < cLine) : OpR X (compareOp .In) (rInT X.K) := fun pins s σ H x y v u Q I rx ry ⟨d, ds, hd, he, sd, se, q⟩ => by
  obtain ⟨bs, k1⟩ := Dp.reads I d x v hd rx
  obtain ⟨as, k2⟩ := Dp.reads I (.tuple ds) y u he ry
  exact SeqAt.in_tuple_reads k2 k1 (SeqAt.canLay_of_shaped (d := .tuple ds) se) (SeqAt.canLay_of_shaped sd) (room_in_shaped sd hu) ⟨.bl _, H, I, rfl, q⟩
theorem op_notInT (hu : X.A.units + 65 < cLine) : OpR X (compareOp .NotIn) (rNotInT X.K) := fun pins s σ H x y v u Q I rx ry ⟨d, ds, hd, he, sd, se, q⟩ => by
  obtain ⟨bs, k1⟩ := Dp.reads I d x v hd rx
  obtain ⟨as, k2⟩ := Dp.reads I (.tuple ds) y u he ry
  exact SeqAt.notIn_tuple_reads k2 k1 (SeqAt.canLay_of_shaped (d := .tuple ds) se) (SeqAt.canLay_of_shaped sd) (room_in_shaped sd hu) ⟨.bl _, H, I, rfl, q⟩
def inStr (i j : Str) : Bool := !(Builtin.Str.occurrences j i 0 j.length 1).isEmpty
def isIn (a b : Dat) : Option Bool := match b with
  | .list ds => if SeqAt.shaped a && SeqAt.shaped (.list ds) then some (ds.any fun z => PyData.eqv z a) else none
  | .tuple ds => if SeqAt.shaped a && SeqAt.shaped (.tuple ds) then some (ds.any fun z => PyData.eqv z a) else none
  | .str j => match a with
    | .str i => some (inStr i j)
    | _ => none
  | _ => none
@[simp] def gIn : Dat → Dat → Sto → Res Dat := fun a b s => match isIn a b with
  | some k => .ok (.bool k) s
  | none => .bad
@[simp] def gNotIn : Dat → Dat → Sto → Res Dat := fun a b s => match isIn a b with
  | some k => .ok (.bool (!k)) s
  | none => .bad
def rIn3 (K : PySem.W.Frag) : R2 := fun x y H Q => rInD K x y H Q ∨ rInT K x y H Q ∨ ∃ i j, x = .str i ∧ y = .str j ∧ Q (.bl (!(Builtin.Str.occurrences j i 0 j.length 1).isEmpty)) H
def rNotIn3 (K : PySem.W.Frag) : R2 := fun x y H Q => rNotInD K x y H Q ∨ rNotInT K x y H Q ∨ ∃ i j, x = .str i ∧ y = .str j ∧ Q (.bl (!(!(Builtin.Str.occurrences j i 0 j.length 1).isEmpty))) H
theorem dp_full {w : Wd} {H : Hp} {K : PySem.W.Frag} {d : Dat} {v : V} (c : SeqAt.shaped d = true) (r : Rp K w.as (Fz w H) d v) : Dp K H v d := Dp_mono Fz_sub _ _ (dp_of d v (SeqAt.canLay_of_shaped c) r)
theorem opIn : OpD G (rIn3 G.K) gIn := by
  intro w e s σ H x y a b Q I ra rb h
  unfold gIn at h
  split at h
  · rename_i k hk
    have fin := flat_ok I h (rp_b (i := k))
    unfold isIn at hk
    split at hk
    · split at hk
      · rename_i c
        cases hk
        rw [Bool.and_eq_true] at c
        exact .inl ⟨_, _, dp_full c.1 ra, dp_full c.2 rb, c.1, c.2, fin⟩
      · cases hk
    · split at hk
      · rename_i c
        cases hk
        rw [Bool.and_eq_true] at c
        exact .inr (.inl ⟨_, _, dp_full c.1 ra, dp_full c.2 rb, c.1, c.2, fin⟩)
      · cases hk
    · split at hk
      · cases hk
        exact .inr (.inr ⟨_, _, rp_str ra, rp_str rb, fin⟩)
      · cases hk
    · cases hk
  · exact h.elim
theorem opNotIn : OpD G (rNotIn3 G.K) gNotIn := by
  intro w e s σ H x y a b Q I ra rb h
  unfold gNotIn at h
  split at h
  · rename_i k hk
    have fin := flat_ok I h (rp_b (i := !k))
    unfold isIn at hk
    split at hk
    · split at hk
      · rename_i c
        cases hk
        rw [Bool.and_eq_true] at c
        exact .inl ⟨_, _, dp_full c.1 ra, dp_full c.2 rb, c.1, c.2, fin⟩
      · cases hk
    · split at hk
      · rename_i c
        cases hk
        rw [Bool.and_eq_true] at c
        exact .inr (.inl ⟨_, _, dp_full c.1 ra, dp_full c.2 rb, c.1, c.2, fin⟩)
      · cases hk
    · split at hk
      · cases hk
        exact .inr (.inr ⟨_, _, rp_str ra, rp_str rb, fin⟩)
      · cases hk
    · cases hk
  · exact h.elim
section
variable {a b : Expr} {pos : Pos} {Fa Fb : FE} {k : Nat}
theorem de_in (hr : Room k X.A) (hK : X.K = G.K) (ha : PE X a (tE G Fa)) (hb : PE X b (tE G Fb)) (hm : behindInMarks .In b = false := by with_unfolding_all rfl) : PE X (.Compare a [.In] [b] pos) (tE G (fBin gIn Fa Fb)) :=
  de_cmp (r := rIn3 G.K) (by rw [← hK]; exact (op_inD (room65 hr)).or ((op_inT (room65 hr)).or op_in_str)) opIn ha hb hm
theorem de_notIn (hr : Room k X.A) (hK : X.K = G.K) (ha : PE X a (tE G Fa)) (hb : PE X b (tE G Fb)) (hm : behindInMarks .NotIn b = false := by with_unfolding_all rfl) : PE X (.Compare a [.NotIn] [b] pos) (tE G (fBin gNotIn Fa Fb)) :=
  de_cmp (r := rNotIn3 G.K) (by rw [← hK]; exact (op_notInD (room65 hr)).or ((op_notInT (room65 hr)).or op_notIn_str)) opNotIn ha hb hm
theorem dt_in (hr : Room k X.A) (hK : X.K = G.K) (ha : PE X a (tE G Fa)) (hb : PE X b (tE G Fb)) (hm : behindInMarks .In b = false := by with_unfolding_all rfl) : PT X (.Compare a [.In] [b] pos) (tT G (fB (fBin gIn Fa Fb))) :=
  dt_cmp (r := rIn3 G.K) (by rw [← hK]; exact (op_inD (room65 hr)).or ((op_inT (room65 hr)).or op_in_str)) opIn ha hb hm
theorem dt_notIn (hr : Room k X.A) (hK : X.K = G.K) (ha : PE X a (tE G Fa)) (hb : PE X b (tE G Fb)) (hm : behindInMarks .NotIn b = false := by with_unfolding_all rfl) : PT X (.Compare a [.NotIn] [b] pos) (tT G (fB (fBin gNotIn Fa Fb))) :=
  dt_cmp (r := rNotIn3 G.K) (by rw [← hK]; exact (op_notInD (room65 hr)).or ((op_notInT (room65 hr)).or op_notIn_str)) opNotIn ha hb hm
end

/-! ### is None -/
@[simp] def isNone : Dat → Option Bool
  | .none => some true
  | .bool _ => some false
  | .int _ => some false
  | .str _ => some false
  | .list _ => some false
  | .tuple _ => some false
  | .dict _ => none
theorem isNone_ok {K as F} {d : Dat} {v : V} {b : Bool} (h : isNone d = some b) (r : Rp K as F d v) : decide (v = .non) = b := by
  cases d with
  | none => cases h; rw [rp_none r]; rfl
  | bool _ => cases h; rw [rp_bool r]; rfl
  | int _ => cases h; rw [rp_int r]; rfl
  | str _ => cases h; rw [rp_str r]; rfl
  | list _ => cases h; obtain ⟨a, xs, rfl, _⟩ := rp_list r; rfl
  | tuple _ => cases h; obtain ⟨a, xs, rfl, _⟩ := rp_tuple r; rfl
  | dict _ => cases h
@[simp] def gIs : Dat → Dat → Sto → Res Dat := fun a b s => match b with
  | .none => match isNone a with
    | some k => .ok (.bool k) s
    | none => .bad
  | _ => .bad
@[simp] def gIsNot : Dat → Dat → Sto → Res Dat := fun a b s => match b with
  | .none => match isNone a with
    | some k => .ok (.bool (!k)) s
    | none => .bad
  | _ => .bad
theorem opIs : OpD G (fun x y H Q => y = .non ∧ Q (.bl (decide (x = .non))) H) gIs := by
  intro w e s σ H x y a b Q I ra rb h
  unfold gIs at h
  split at h
  · split at h
    · rename_i k hk
      rw [isNone_ok hk ra]
      exact ⟨rp_none rb, flat_ok I h rp_b⟩
    · exact h.elim
  · exact h.elim
theorem opIsNot : OpD G (fun x y H Q => y = .non ∧ Q (.bl (!decide (x = .non))) H) gIsNot := by
  intro w e s σ H x y a b Q I ra rb h
  unfold gIsNot at h
  split at h
  · split at h
    · rename_i k hk
      rw [isNone_ok hk ra]
      exact ⟨rp_none rb, flat_ok I h rp_b⟩
    · exact h.elim
  · exact h.elim
section
variable {a b : Expr} {pos : Pos} {Fa Fb : FE}
theorem de_is (ha : PE X a (tE G Fa)) (hb : PE X b (tE G Fb)) : PE X (.Compare a [.Is] [b] pos) (tE G (fBin gIs Fa Fb)) := de_cmp op_isN opIs ha hb
theorem de_isNot (ha : PE X a (tE G Fa)) (hb : PE X b (tE G Fb)) : PE X (.Compare a [.IsNot] [b] pos) (tE G (fBin gIsNot Fa Fb)) := de_cmp op_notN opIsNot ha hb
theorem dt_is (ha : PE X a (tE G Fa)) (hb : PE X b (tE G Fb)) : PT X (.Compare a [.Is] [b] pos) (tT G (fB (fBin gIs Fa Fb))) := dt_cmp op_isN opIs ha hb
theorem dt_isNot (ha : PE X a (tE G Fa)) (hb : PE X b (tE G Fb)) : PT X (.Compare a [.IsNot] [b] pos) (tT G (fB (fBin gIsNot Fa Fb))) := dt_cmp op_notN opIsNot ha hb
end

/-! ### isinstance of data -/
@[simp] def tyName : Dat → Option String
  | .none => some "NoneType"
  | .bool _ => some "bool"
  | .int _ => some "int"
  | .str _ => some "str"
  | .list _ => some "list"
  | .tuple _ => some "tuple"
  | .dict _ => none
@[simp] def isiTab (T n : String) : Bool := n == T || (T == "int" && n == "bool")
@[simp] def gIsi (T : String) : Dat → Sto → Res Dat := fun d s => match tyName d with
  | some n => .ok (.bool (isiTab T n)) s
  | none => .bad
theorem tyName_is {K : PySem.W.Frag} {w : Wd} {H : Hp} {d : Dat} {v : V} {n : String} (h : tyName d = some n) (r : Rp K w.as (Fz w H) d v) : TyX K H v (.type n) ∧ n ∈ ["NoneType", "bool", "int", "str", "list", "tuple"] := by
  cases d with
  | none => cases h; rw [rp_none r]; exact ⟨.base .non, by simp⟩
  | bool b => cases h; rw [rp_bool r]; exact ⟨.base (.bl b), by simp⟩
  | int b => cases h; rw [rp_int r]; exact ⟨.base (.int b), by simp⟩
  | str b => cases h; rw [rp_str r]; exact ⟨.base (.str b), by simp⟩
  | list ds =>
    cases h
    obtain ⟨a, xs, rfl, q, _⟩ := rp_list r
    exact ⟨.base (.lst (Fz_sub _ _ q)), by simp⟩
  | tuple ds =>
    cases h
    obtain ⟨a, xs, rfl, q, _⟩ := rp_tuple r
    refine ⟨?_, by simp⟩
    rcases sqT_mono Fz_sub q with (q | ⟨o, q⟩) | ⟨o, its, n, hk, hc, _⟩
    · exact .base (.tup q)
    · exact .fTuple q
    · exact .kTuple hk hc
  | dict _ => cases h
theorem de_isi (T : String) {p p2 pos : Pos} {a : Expr} {Fa : FE} {x : Str} (hK : X.K = G.K) (hm : X.mg "isinstance" = none) (hm2 : X.mg x = none) (ht : ∀ n ∈ ["NoneType", "bool", "int", "str", "list", "tuple"], kitB n T = some (isiTab T n)) (ha : PE X a (tE G Fa)) (hg : Gl X "isinstance" := by rfl) (hg2 : Gl X x := by rfl)
    (hv : bootBuiltins x = some (.type T) := by decide +kernel) (hv2 : bootBuiltins "isinstance" = some (.builtin "isinstance") := by decide +kernel) (hn : x ≠ "__name__" := by decide) (hdb : (x == ("__debug__" : Str)) = false := by decide)
    (he : starEach [a, .Name x p2] X.env = (false, eval a X.env) :: starEach [.Name x p2] X.env := by rfl) (he2 : starEach [.Name x p2] X.env = (false, eval (.Name x p2) X.env) :: starEach [] X.env := by rfl) (hpl : (backTo pos (starEach [.Name x p2] X.env)).any (·.1) = false := by rfl) :
    PE X (.Call (.Name "isinstance" p) [a, .Name x p2] [] pos) (tE G (fUn (gIsi T) Fa)) :=
  PE_imp (pe_callB call_isi hg hm hv2 (pa_cons ha (pa_cons (pe_bltn (v := .ty T) hg2 hm2 hv rfl hn hdb) pa_nil he2) he) (by decide) (by decide) he hpl) fun σ H Q ⟨w, e, s, I, h⟩ => by
    refine ⟨w, e, s, I, holds_imp (holds_bind h) fun d s1 h1 w1 v H1 I1 x1 r1 => ?_⟩
    unfold gIsi at h1
    split at h1
    · rename_i n hn'
      obtain ⟨t1, t2⟩ := tyName_is hn' r1
      rw [hK]
      exact ⟨v, .ty T, .type n, .type T, _, rfl, .ty T, t1, kit_ty (ht n t2), h1 w1 _ H1 I1 x1 rp_b⟩
    · exact h1.elim
end
end DL

namespace DL
open PySem PySem.Spec PyProof.Rows L2
section
variable {X : Cx} {G : Gx}
/-! ### sum -/
def rSumT (K : PySem.W.Frag) : List V → Hp → VK → Prop := fun vs H Q => ∃ (a : Addr) (ns : List Int), vs = [V.ref a] ∧ SqT K H a (ns.map V.int) ∧ Q (.int ns.sum) H
theorem cr_sumT (hc : X.calm = true) : CallR X (.builtin "sum") (rSumT X.K) := fun pins s σ H vs us Q I r ⟨a, ns, ev, hs, q⟩ => by
  subst ev
  obtain ⟨its, rv, hl, _⟩ := I.tuple hs
  have hi : IntsAre its ns := intsAre_of rv
  obtain ⟨xs, hx⟩ := hi.allInts.items
  have hn : numsOf its.toArray.toList = ns := hi.numsOf
  rw [hx, nums_intItems] at hn
  rw [Vals.ref1 r]
  have la : a < s.heap.objs.size := hl.lt
  refine call_sum_walkG (wpAny_pyIter_tuple (show s.heap.IsTuple a its.toArray from hl) ?_)
  refine ⟨s.heap.objs.size, _, _, _, _, _, numAt xs, rfl, Walks.tuple (A := X.A.in1) (I.ok.hd hc) s.heap.objs.size a (Nat.ne_of_lt la) its.toArray, ⟨⟨_, Heap.get?_push_size _ rfl, rfl, rfl⟩, Heap.IsTuple.push (show s.heap.IsTuple a its.toArray from hl) _⟩, fun b hb => ?_, fun i v hv => intItems_at (by rw [← hx]; exact hv), fun h' tk t' hk => ?_⟩
  · show b < (s.heap.push _).objs.size
    rw [Heap.size_push]
    rcases List.mem_cons.mp hb with e | hb
    · rw [e]; exact Nat.lt_succ_self _
    · rw [List.mem_singleton.mp hb]; exact Nat.lt_succ_of_lt la
  · refine ⟨.int ns.sum, H, I.kept fun b o eo => hk b o (fun hm => ?_) (Heap.get?_push_of_some _ eo), ⟨t', ?_⟩, q⟩
    · rw [List.mem_singleton.mp hm] at eo
      exact absurd (Heap.lt_size eo) (Nat.lt_irrefl _)
    · rw [preSum_eq, ← hn, List.take_of_length_le (by rw [hx]; simp [intItems])]
theorem cdSum : CallD G (fun vs H Q => rSum G.K vs H Q ∨ rSumT G.K vs H Q) gSum := by
  intro w e s σ H xs ds Q I r h
  unfold gSum at h
  split at h
  · split at h
    · rename_i ns hns
      obtain ⟨v, rfl, r1⟩ := rpl1 r
      obtain ⟨p, ys, rfl, hp, rx⟩ := rp_list r1
      have e := ints_vals hns rx
      subst e
      exact .inl ⟨p, ns, rfl, .inl (.inl (Fz_sub _ _ hp)), flat_ok I h rp_i⟩
    · exact h.elim
  · split at h
    · rename_i ns hns
      obtain ⟨v, rfl, r1⟩ := rpl1 r
      obtain ⟨p, ys, rfl, hp, rx⟩ := rp_tuple r1
      have e := ints_vals hns rx
      subst e
      exact .inr ⟨p, ns, rfl, sqT_mono Fz_sub hp, flat_ok I h rp_i⟩
    · exact h.elim
  · exact h.elim
theorem de_sum {p pos : Pos} {a : Expr} {es : List Expr} {Fs : FA} (hc : X.calm = true) (hK : X.K = G.K) (hm : X.mg "sum" = none) (ha : PA X (a :: es) (tA G Fs)) (hgl : Gl X "sum" := by rfl) (he : starEach (a :: es) X.env = (false, eval a X.env) :: starEach es X.env := by rfl) (hpl : (backTo pos (starEach es X.env)).any (·.1) = false := by rfl) :
    PE X (.Call (.Name "sum" p) (a :: es) [] pos) (tE G (fCall gSum Fs)) := de_callB (CallR.or (cr_sum hc) (cr_sumT hc)) (by rw [hK]; exact cdSum) hm ha (hgl := hgl) (he := he) (hpl := hpl)

/-! ### new lists for a local of one's own -/
/-- behind an expression that makes a new list -/
def kN (G : Gx) (w : Wd) (e : Lcs) (σ : L2.St) (H : Hp) (Q : VK) : List Dat → Sto → Prop := fun ds s' => ∀ w' p vs H', IE G w' e s' σ H' → FExt w H w' H' → w'.ow p → G.H0 p = none → ¬ G.O0 p → Lone e σ p → H' p = some (.lst vs) → RpL G.K w'.as (Fz w' H') ds vs → Q (.ref p) H'
def tN (G : Gx) (F : FA) : TE := fun σ H Q => ∃ w e s, IE G w e s σ H ∧ (F e s).holds (kN G w e σ H Q) (kX G w e σ H)
theorem kN_ext {w w1 : Wd} {e : Lcs} {σ : L2.St} {H H1 : Hp} {Q : VK} {d : List Dat} {s : Sto} (x : FExt w H w1 H1) (h : kN G w e σ H Q d s) : kN G w1 e σ H1 Q d s :=
  fun w' p vs H' I x' => h w' p vs H' I (x.trans x')
theorem new_own {w : Wd} {e : Lcs} {s : Sto} {σ : L2.St} {H : Hp} {Q : VK} {ds : List Dat} {vs : List V} {p : Addr} (I : IE G w e s σ H) (r : RpL G.K w.as (Fz w H) ds vs) (h : kN G w e σ H Q ds s) (hp : H p = none) : Q (.ref p) (upd H p (.lst vs)) :=
  h (w.plus p) p vs _ (I.plus hp) (plus_f hp) (.inr rfl) (I.fresh0 hp) (I.freshO0 hp) (I.lone hp) upd_same (by rw [Fz_plus hp]; exact r)
theorem dn_lst {es : List Expr} {pos : Pos} {Fs : FA} (h : PA X es (tA G Fs)) : PE X (.List es pos) (tN G (fun e s => (Fs e s).bind fun ds s1 => if cLen ds then .ok ds s1 else .bad)) := PE_imp (pe_lst h) fun σ H Q ⟨w, e, s, I, h⟩ => by
  refine ⟨w, e, s, I, holds_imp (holds_bind h) fun ds s1 h1 w1 xs H1 I1 x1 r1 => ?_⟩
  split at h1
  · rename_i c
    exact ⟨by rw [r1.length]; exact of_decide_eq_true c, fun p hp => new_own I1 r1 (kN_ext x1.f h1) hp⟩
  · exact h1.elim
@[simp] def nLstOf (Fs : FA) : FA := fun e s => (Fs e s).bind fun ds s1 => match ds with
  | [.list xs] => .ok xs s1
  | [.tuple xs] => .ok xs s1
  | _ => .bad
@[simp] def nCat (Fa Fb : FE) : FA := fun e s => (Fa e s).bind fun x s1 => (Fb e s1).bind fun y s2 => match x, y with
  | .list xs, .list ys => if xs.length + ys.length ≤ sizeLine then .ok (xs ++ ys) s2 else .bad
  | _, _ => .bad
/-- list(xs), tuples and lists -/
theorem dn_lstOf {p pos : Pos} {a : Expr} {es : List Expr} {Fs : FA} (hK : X.K = G.K) (hm : X.mg "list" = none) (ha : PA X (a :: es) (tA G Fs)) (hgl : Gl X "list" := by rfl) (he : starEach (a :: es) X.env = (false, eval a X.env) :: starEach es X.env := by rfl) (hpl : (backTo pos (starEach es X.env)).any (·.1) = false := by rfl) :
    PE X (.Call (.Name "list" p) (a :: es) [] pos) (tN G (nLstOf Fs)) := PE_imp (pe_callTy call_list_of hgl hm (by decide +kernel) ha (by decide) (by decide) he hpl) fun σ H Q ⟨w, e, s, I, h⟩ => by
  rw [hK]
  refine ⟨w, e, s, I, holds_imp (holds_bind h) fun ds s1 h1 w1 xs H1 I1 x1 r1 => ?_⟩
  split at h1
  · obtain ⟨v, rfl, k⟩ := rpl1 r1
    obtain ⟨p, ys, rfl, hp, rx⟩ := rp_list k
    exact ⟨p, ys, rfl, .inl (.inl (.inl (Fz_sub _ _ hp))), fun l hl => new_own I1 rx (kN_ext x1.f h1) hl⟩
  · obtain ⟨v, rfl, k⟩ := rpl1 r1
    obtain ⟨p, ys, rfl, hp, rx⟩ := rp_tuple k
    exact ⟨p, ys, rfl, .inr (sqT_mono Fz_sub hp), fun l hl => new_own I1 rx (kN_ext x1.f h1) hl⟩
  · exact h1.elim
/-- xs + ys, two lists -/
theorem dn_cat {a b : Expr} {pos : Pos} {Fa Fb : FE} (ha : PE X a (tE G Fa)) (hb : PE X b (tE G Fb)) : PE X (.BinOp a .Add b pos) (tN G (nCat Fa Fb)) := PE_imp (pe_op op_cat ha hb) fun σ H Q ⟨w, e, s, I, h⟩ => by
  refine ⟨w, e, s, I, holds_imp (holds_bind h) fun x s1 h1 w1 xv H1 I1 x1 r1 => ?_⟩
  refine ⟨w1, e, s1, I1, holds_imp (holds_bind h1) fun y s2 h2 w2 yv H2 I2 x2 r2 => ?_⟩
  split at h2
  · split at h2
    · rename_i c
      obtain ⟨p, us, rfl, hp, rx⟩ := rp_list (x2.rp r1)
      obtain ⟨q, zs, rfl, hq, ry⟩ := rp_list r2
      exact ⟨p, q, us, zs, rfl, rfl, Fz_sub _ _ hp, Fz_sub _ _ hq, by rw [rx.length, ry.length]; exact c, fun l hl => new_own I2 (rx.append ry) (kN_ext (x1.trans x2).f h2) hl⟩
    · exact h2.elim
  · exact h2.elim
/-- a comprehension -/
@[simp] def fLcN (Fi : FA) (F : FG) (C : FT) (Fe : FE) (vs : List Nat) : FA := fun e s => (Fi e s).bind fun ds s1 => if decide (ds.length < sizeLine) then lcL F C Fe (wipeE e vs) ds s1 else .bad
theorem lcN_of {Fi : FA} {F : FG} {C : FT} {Fe : FE} {vs is : List Nat} (his : ∀ i ∈ is, i ∈ vs) {σ : L2.St} {H : Hp} {Q : VK} (h : tN G (fLcN Fi F C Fe vs) σ H Q) : tLc (tI G Fi) (tG G is F) (tT G C) (tE G Fe) vs σ H Q := by
  obtain ⟨w, e, s, I, h⟩ := h
  refine ⟨w, e, s, I, holds_imp (holds_bind h) fun ds s1 h1 w1 H1 J I1 x1 W D hD => ?_⟩
  have hz : ds.length < sizeLine := by
    by_cases q : ds.length < sizeLine
    · exact q
    · rw [if_neg (by simpa using q)] at h1
      exact h1.elim
  rw [if_pos (by simpa using hz)] at h1
  have lone : Lone (wipeE e vs) (wipe σ vs) D := (I1.wipe vs).lone hD
  have d0 : G.H0 D = none := I1.fresh0 hD
  have dn : ¬ w1.ow D := I1.freshO hD
  have d00 : ¬ G.O0 D := I1.freshO0 hD
  have I2 : IE G (w1.plus D) (wipeE e vs) s1 (wipe σ vs) (upd H1 D (.lst [])) := (I1.wipe vs).plus hD
  refine ⟨fun i m H2 => m = ds.length - i ∧ i ≤ ds.length ∧ ∃ w2 s2 acc avs, IE G w2 (wipeE e vs) s2 (wipe σ vs) H2 ∧ FExt w1 H1 w2 H2 ∧ w2.ow = (w1.plus D).ow ∧ (∀ a, w1.ow a → H2 a = H1 a) ∧ H2 D = some (.lst avs) ∧ RpL G.K w2.as (Fz w2 H2) acc avs ∧ acc.length ≤ i ∧
      (lcL F C Fe (wipeE e vs) (ds.drop i) s2).holds (fun ys s3 => kN G w1 e σ H1 Q (acc ++ ys) s3) (kX G w1 e σ H1),
    ⟨ds.length, by omega, Nat.zero_le _, w1.plus D, s1, [], [], I2, plus_f hD, rfl, fun a ha => upd_ne fun (z : a = D) => dn (by rw [← z]; exact ha), upd_same, RpL.nil, Nat.le_refl _, ?_⟩, ?_⟩
  · exact holds_imp h1 fun ys s2 h2 => kN_ext x1.f h2
  rintro i m H2 ⟨rfl, hi, w2, s2, acc, avs, J2, x2, o2, k2, hD2, ra, la, q⟩
  have owD : w2.ow D := by rw [o2]; exact .inr rfl
  by_cases hlt : i < ds.length
  · refine .inr ⟨W.go w2 H2 x2 i hlt, fun H3 => ∃ w3 s3 acc avs, IE G w3 (wipeE e vs) s3 (wipe σ vs) H3 ∧ FExt w1 H1 w3 H3 ∧ w3.ow = (w1.plus D).ow ∧ (∀ a, w1.ow a → H3 a = H1 a) ∧ H3 D = some (.lst avs) ∧ RpL G.K w3.as (Fz w3 H3) acc avs ∧ acc.length ≤ i + 1 ∧
        (lcL F C Fe (wipeE e vs) (ds.drop (i + 1)) s3).holds (fun ys s4 => kN G w1 e σ H1 Q (acc ++ ys) s4) (kX G w1 e σ H1), fun H3 k => ⟨ds.length - (i + 1), by omega, rfl, hlt, k⟩, fun v H3 y => ?_⟩
    obtain ⟨J3, x3, d, hd, rd⟩ := W.yld w2 _ s2 _ H2 H3 i v J2 x2 hlt y
    have ed : ds.drop i = d :: ds.drop (i + 1) := by
      rw [List.drop_eq_getElem_cons hlt]
      rw [List.getElem?_eq_getElem hlt] at hd
      cases hd
      rfl
    rw [ed] at q
    unfold lcL at q
    have on : ∀ {w5 : Wd} {H5 : Hp}, EExt w2 H2 w5 H5 → FExt w1 H1 w5 H5 ∧ w5.ow = (w1.plus D).ow ∧ (∀ a, w1.ow a → H5 a = H1 a) ∧ H5 D = some (.lst avs) ∧ RpL G.K w5.as (Fz w5 H5) acc avs := fun {w5 H5} x =>
      ⟨x2.trans x.f, x.ow.trans o2, fun a ha => (x.own a (by rw [o2]; exact .inl ha)).trans (k2 a ha), (x.own D owD).trans hD2, x.rpl ra⟩
    refine ⟨w2, wipeE e vs, s2, d, J3, rd, holds_imp (holds_noex (holds_bind q) _) fun e4 s4 h4 w4 σ4 H4 I4 x4 a4 l4 => ?_⟩
    have hw : wipe σ4 vs = wipe σ vs := by
      have e1 : wipe σ4 vs = wipe (wipe σ vs) vs := wipe_eq l4 fun j hj => a4 j fun z => hj (his j z)
      have e2 : wipe (wipe σ vs) vs = wipe σ vs := wipe_eq (wipe_length σ vs) fun j hj => wipe_get hj
      exact e1.trans e2
    refine ⟨hw, w4, e4, s4, I4, holds_imp (holds_noex (holds_bind h4) _) fun b s5 h5 w5 H5 I5 x5 => ?_⟩
    have x25 := x3.trans (x4.trans x5)
    cases b with
    | true =>
      simp only [if_true] at h5
      refine iteT ⟨w5, e4, s5, I5, holds_imp (holds_noex (holds_bind h5) _) fun y s6 h6 w6 yv H6 I6 x6 r6 => ?_⟩
      have x26 := x25.trans x6
      obtain ⟨g1, g2, g3, g4, g5⟩ := on x26
      refine ⟨avs, g4, by rw [ra.length]; omega, ?_⟩
      have J6 : IE G w6 (wipeE e vs) s6 (wipe σ vs) H6 := J2.re x26 I6
      have ow6 : w6.ow D := by rw [g2]; exact .inr rfl
      refine ⟨w6, s6, acc ++ [y], avs ++ [yv], J6.write ow6 d0 lone, g1.trans (write_f ow6), g2, fun a ha => ?_, upd_same, ?_, by simp; omega, ?_⟩
      · rw [upd_ne fun (z : a = D) => dn (by rw [← z]; exact ha)]
        exact g3 a ha
      · rw [Fz_own ow6]
        exact g5.append (RpL.one r6)
      · refine holds_imp (holds_bind h6) fun ys s7 h7 => ?_
        have h7' : kN G w1 e σ H1 Q (acc ++ (y :: ys)) s7 := h7
        rw [List.append_assoc]
        exact h7'
    | false =>
      simp only [Bool.false_eq_true, if_false] at h5
      obtain ⟨g1, g2, g3, g4, g5⟩ := on x25
      exact iteF ⟨w5, s5, acc, avs, J2.re x25 I5, g1, g2, g3, g4, g5, by omega, h5⟩
  · have e0 : ds.drop i = [] := List.drop_eq_nil_of_le (by omega)
    rw [e0] at q
    refine .inl ⟨W.stop w2 H2 x2 i (by omega), ?_⟩
    have q' : kN G w1 e σ H1 Q (acc ++ []) s2 := q
    rw [List.append_nil] at q'
    have I3 : IE G w2 e s2 σ H2 := by
      refine ⟨I1.len, fun j d h => ?_, fun j es h => ?_, I1.inj, J2.slen, J2.cells, J2.nd, J2.dis, J2.beg, J2.o0, J2.there, J2.keep, J2.cfresh⟩
      · obtain ⟨v, z1, z2⟩ := I1.slot j d h
        exact ⟨v, z1, x2.rp z2⟩
      · obtain ⟨p, us, z1, z2, z3, z4, z5, z6⟩ := I1.own j es h
        exact ⟨p, us, z1, by rw [o2]; exact .inl z2, z3, z4, by rw [k2 p z2]; exact z5, CR.mono x2.beg x2.same z6⟩
    exact q' w2 D avs H2 I3 x2 owD d0 d00 (I1.lone hD) hD2 ra
theorem dn_lc {elt tg iter : Expr} {ifs : List Expr} {scope : Scope} {own : List (Str × Nat)} {pos : Pos} {Fi : FA} {F : FG} {C : FT} {Fe : FE} {is : List Nat} (hc : X.calm = true) (hN : X.N.Nodup) (ok : BlkOk X.N X.env.scope scope own) (hi : PI X tg iter (tI G Fi))
    (hg : ∀ (s : Shared) (H : Hp) (A : Addr) (cl : List (Str × Addr)) (fp : List Addr), PG (X.blk s H scope (compEnvC scope cl A X.env) fp) tg (tG G is F)) (ht : ∀ (s : Shared) (H : Hp) (A : Addr) (cl : List (Str × Addr)) (fp : List Addr), PTs (X.blk s H scope (compEnvC scope cl A X.env) fp) ifs (tT G C))
    (he : ∀ (s : Shared) (H : Hp) (A : Addr) (cl : List (Str × Addr)) (fp : List Addr), PE (X.blk s H scope (compEnvC scope cl A X.env) fp) elt (tE G Fe)) (his : ∀ i ∈ is, i ∈ own.map (·.2) := by decide) (hs : ∀ x, foldedSetIterable iter X.env x = pure x := by intro _; rfl) :
    PE X (.ListComp elt [⟨tg, iter, ifs, 0⟩] scope pos) (tN G (fLcN Fi F C Fe (own.map (·.2)))) := PE_imp (pe_lc hc hN hi ok hg ht he hs) fun _ _ _ h => lcN_of his h
/-- x = a new list -/
@[simp] def sOwnN (i : Nat) (F : FA) : FS := fun e s => (F e s).flo e fun ds s1 => if i < e.length then .nx (e.set i (.ow (.ls ds))) s1 else .bad
theorem own_of {F : FA} {i : Nat} {D : Ends} {σ : L2.St} {H : Hp} (h : tS G (sOwnN i F) D σ H) : tN G F σ H fun x H1 => gName i x σ H1 D.nx := by
  obtain ⟨w, e, s, I, h⟩ := h
  refine ⟨w, e, s, I, holds_imp (flo_holds h) fun ds s1 h1 w1 p vs H1 I1 x1 k1 k2 k3 k4 k5 k6 => ?_⟩
  split at h1
  · rename_i c
    exact h1 w1 _ H1 (I1.setOwn c k1 k2 k3 k4 k5 (cr_ls k6)) x1
  · exact h1.elim
theorem ds_own (i : Nat) {y : Str} {x : Expr} {pos pos' : Pos} {F : FA} (hN : X.N.Nodup) (ha : PE X x (tN G F)) (hi : X.N[i]? = some y := by rfl) (hx : Loc X.env.scope y := by first | exact Or.inl rfl | exact Or.inr rfl) (hs : swapsWith x (some (.Name y pos')) pos.line X.env = pure false := by rfl)
    (hf : X.fn y = true ∨ X.env.scope.names.lookup y = some .local := by first | exact .inl rfl | exact .inr rfl) : PS X (.Assign [.Name y pos'] x pos) (tS G (sOwnN i F)) :=
  PS_imp (ps_set hN hi hx ha hs hf) fun D σ H h => own_of h
theorem ds_ownLc (i : Nat) {y : Str} {py : Pos} {elt tg iter : Expr} {ifs : List Expr} {scope : Scope} {own : List (Str × Nat)} {pos spos : Pos} {Fi : FA} {F : FG} {C : FT} {Fe : FE} {is : List Nat} (hc : X.calm = true) (hN : X.N.Nodup) (ok : BlkOk X.N X.env.scope scope own)
    (hsw : swapsWith (.ListComp elt [⟨tg, iter, ifs, 0⟩] scope pos) (some (.Name y py)) spos.line X.env = pure true) (hi : PI X tg iter (tI G Fi))
    (hg : ∀ (s : Shared) (H : Hp) (A : Addr) (cl : List (Str × Addr)) (fp : List Addr), PG (X.blk s H scope (compEnvC scope cl A X.env) fp) tg (tG G is F)) (ht : ∀ (s : Shared) (H : Hp) (A : Addr) (cl : List (Str × Addr)) (fp : List Addr), PTs (X.blk s H scope (compEnvC scope cl A X.env) fp) ifs (tT G C))
    (he : ∀ (s : Shared) (H : Hp) (A : Addr) (cl : List (Str × Addr)) (fp : List Addr), PE (X.blk s H scope (compEnvC scope cl A X.env) fp) elt (tE G Fe)) (hy : X.N[i]? = some y := by rfl) (hyl : X.env.scope.names.lookup y = some .local := by rfl)
    (his : ∀ i ∈ is, i ∈ own.map (·.2) := by decide) (hs : ∀ x, foldedSetIterable iter X.env x = pure x := by intro _; rfl) :
    PS X (.Assign [.Name y py] (.ListComp elt [⟨tg, iter, ifs, 0⟩] scope pos) spos) (tS G (sOwnN i (fLcN Fi F C Fe (own.map (·.2))))) :=
  PS_imp (ps_setLc hc hN hy hyl hsw hi ok hg ht he hs) fun D σ H h => lcN_of his (own_of h)
/-- x[k], len(x) of a list of one's own, or that stands still by now -/
@[simp] def fIxOwn (i : Nat) (Fb : FE) : FE := fun e s => match e[i]? with
  | some (.ow (.ls ds)) => (Fb e s).bind fun k s1 => match k with
    | .int j => match atI ds j with
      | some d => .ok d s1
      | none => .bad
    | _ => .bad
  | some (.fz d) => (Fb e s).bind fun k s1 => gIx d k s1
  | _ => .bad
theorem de_ixOwn (i : Nat) {x : Str} {b : Expr} {pos px : Pos} {Fb : FE} (hK : X.K = G.K) (hb : PE X b (tE G Fb)) (hs : PlainIx b := by exact fun _ _ => rfl) (hN : X.N[i]? = some x := by rfl) (hv : Vis X.env.scope x := by first | exact Or.inl rfl | exact Or.inr (Or.inl rfl) | exact Or.inr (Or.inr rfl)) (hd : (x == ("__debug__" : Str)) = false := by decide)
    (hcd : (x == ("__classdict__" : Str)) = false := by decide) : PE X (.Subscript (.Name x px) b pos) (tE G (fIxOwn i Fb)) := PE_imp (pe_ix ix_seq (pe_var (i := i) hN hv hd hcd) hb hs) fun σ H Q ⟨w, e, s, I, h⟩ => by
  unfold fIxOwn at h
  split at h
  · rename_i ds hds
    obtain ⟨p, vs, g1, g2, g3, g4, g5, g6⟩ := I.ownL hds
    refine ⟨.ref p, g1, w, e, s, I, holds_imp (holds_bind h) fun k s1 h1 w1 kv H1 I1 x1 r1 => ?_⟩
    split at h1
    · split at h1
      · rename_i d hd'
        obtain ⟨v, k1, k2⟩ := atI_rp (x1.rpl g6) hd'
        exact .inl ⟨p, vs, _, v, rfl, rp_int r1, .inl (.inl ((x1.own p g2).trans g5)), k1, h1 w1 v H1 I1 x1 k2⟩
      · exact h1.elim
    · exact h1.elim
  · rename_i d hd'
    obtain ⟨v, g1, g2⟩ := I.slot i d hd'
    refine ⟨v, g1, w, e, s, I, holds_imp (holds_bind h) fun k s1 h1 w1 kv H1 I1 x1 r1 => ?_⟩
    rw [hK]
    exact opIx w1 e s1 σ H1 v kv d k Q I1 (x1.rp g2) r1 (holds_imp h1 fun d s2 h2 => kE_ext x1 h2)
  · exact h.elim
@[simp] def fLenOwn (i : Nat) : FE := fun e s => match e[i]? with
  | some (.ow (.ls ds)) => .ok (.int ds.length) s
  | some (.fz d) => gLen [d] s
  | _ => .bad
theorem de_lenOwn (i : Nat) {x : Str} {pos p px : Pos} (hK : X.K = G.K) (hm : X.mg "len" = none) (hN : X.N[i]? = some x := by rfl) (hv : Vis X.env.scope x := by first | exact Or.inl rfl | exact Or.inr (Or.inl rfl) | exact Or.inr (Or.inr rfl)) (hd : (x == ("__debug__" : Str)) = false := by decide)
    (hcd : (x == ("__classdict__" : Str)) = false := by decide) (hgl : Gl X "len" := by rfl) (he : starEach [.Name x px] X.env = (false, eval (.Name x px) X.env) :: starEach [] X.env := by rfl) (hpl : (backTo pos (starEach [] X.env)).any (·.1) = false := by rfl) :
    PE X (.Call (.Name "len" p) [.Name x px] [] pos) (tE G (fLenOwn i)) := PE_imp (pe_callB call_len hgl hm (by decide +kernel) (pa_cons (pe_var (i := i) hN hv hd hcd) pa_nil he) (by decide) (by decide) he hpl) fun σ H Q ⟨w, e, s, I, h⟩ => by
  unfold fLenOwn at h
  split at h
  · rename_i ds hds
    obtain ⟨p, vs, g1, g2, g3, g4, g5, g6⟩ := I.ownL hds
    refine ⟨.ref p, g1, .ref p, vs.length, rfl, .inl ⟨vs, .inl (.inl g5), rfl⟩, ?_⟩
    rw [g6.length]
    exact flat_ok I h rp_i
  · rename_i d hd'
    obtain ⟨v, g1, g2⟩ := I.slot i d hd'
    rw [hK]
    exact ⟨v, g1, cdLen w e s σ H [v] [d] Q I (RpL.one g2) h⟩
  · exact h.elim
/-- x[k] = v, a list of one's own -/
@[simp] def sItemOwn (i : Nat) (Fk Fv : FE) : FS := fun e s => (Fv e s).flo e fun d s1 => match e[i]? with
  | some (.ow (.ls ds)) => (Fk e s1).flo e fun k s2 => match k with
    | .int j => match ixN ds.length j with
      | some m => .nx (e.set i (.ow (.ls (ds.set m d)))) s2
      | none => .bad
    | _ => .bad
  | _ => .bad
theorem ds_itemOwn (i : Nat) {x : Str} {k v : Expr} {pos p2 px : Pos} {Fk Fv : FE} (hv : PE X v (tE G Fv)) (hk : PE X k (tE G Fk)) (hN : X.N[i]? = some x := by rfl) (hvis : Vis X.env.scope x := by first | exact Or.inl rfl | exact Or.inr (Or.inl rfl) | exact Or.inr (Or.inr rfl)) (hd : (x == ("__debug__" : Str)) = false := by decide)
    (hcd : (x == ("__classdict__" : Str)) = false := by decide) (ha : ∀ u, assign (.Subscript (.Name x px) k p2) X.env u = (do
      let ov ← holding [u] (eval (.Name x px) X.env)
      let iv ← holding [u, ov] (eval k X.env)
      standAt p2
      holding [u, ov, iv] (setItem ov iv u)
      release [u, ov, iv] []) := by intro _; rfl) (hs : swapsWithSole [.Subscript (.Name x px) k p2] v pos.line X.env = pure false := by rfl) (hw : swappedStores [.Subscript (.Name x px) k p2] v X.env = pure none := by rfl)
    (h1 : (assignEach [.Subscript (.Name x px) k p2] X.env).map (·.2) = [assign (.Subscript (.Name x px) k p2) X.env] := by rfl) : PS X (.Assign [.Subscript (.Name x px) k p2] v pos) (tS G (sItemOwn i Fk Fv)) :=
  PS_imp (ps_asg hv (pg_sub (pe_var (i := i) hN hvis hd hcd) hk set_list ha) hs hw h1) fun D σ H ⟨w, e, s, I, h⟩ => by
    refine ⟨w, e, s, I, holds_imp (flo_holds h) fun d s1 h1 w1 dv H1 I1 x1 r1 => ?_⟩
    split at h1
    · rename_i ds hds
      obtain ⟨p, vs, g1, g2, g3, g4, g5, g6⟩ := I1.ownL hds
      refine ⟨.ref p, g1, w1, e, s1, I1, holds_imp (flo_holds h1) fun k s2 h2 w2 kv H2 I2 x2 r2 => ?_⟩
      split at h2
      · rename_i j
        split at h2
        · rename_i m hm
          obtain ⟨p', vs', k1, k2, k3, k4, k5, k6⟩ := I2.ownL hds
          rw [g1] at k1; cases k1
          refine ⟨p, vs', j, m, rfl, rp_int r2, k5, by rw [k6.length]; exact hm, ?_⟩
          exact h2 w2 σ _ (I2.writeOwn hds g1 (cr_ls (k6.set m (x2.rp r1)))) ((x1.trans x2).f.trans (write_f k2))
        · exact h2.elim
      · exact h2.elim
    · exact h1.elim
end
end DL

namespace DL
open PySem PySem.Spec PyProof.Rows L2
section
variable {X : Cx} {G : Gx}
/-! ### xs turned round -/
theorem RpL.reverse {K : PySem.W.Frag} {as : List Addr} {F : Hp} : ∀ {ds : List Dat} {vs : List V}, RpL K as F ds vs → RpL K as F ds.reverse vs.reverse
  | [], [], _ => by simpa using RpL.nil
  | d :: ds, v :: vs, h => by
    simp only [RpL] at h
    rw [List.reverse_cons, List.reverse_cons]
    exact (RpL.reverse h.2).append (RpL.one h.1)
  | [], _ :: _, h => by simp [RpL] at h
  | _ :: _, [], h => by simp [RpL] at h
@[simp] def gRev : Dat → Sto → Res Dat := fun d s => match d with
  | .list ds => .ok (.list ds.reverse) s
  | _ => .bad
theorem de_rev {a : Expr} {k : Nat} {p1 p2 p3 pos : Pos} {Fa : FE} (hK : X.K = G.K) (ha : PE X a (tE G Fa)) : PE X (.Subscript a (.Slice none none (some (.UnaryOp .USub (.Constant (.int 1) k p1) p2)) p3) pos) (tE G (fUn gRev Fa)) :=
  PE_imp (pe_revL ha) fun σ H Q ⟨w, e, s, I, h⟩ => by
    refine ⟨w, e, s, I, holds_imp (holds_bind h) fun d s1 h1 w1 x H1 I1 x1 r1 => ?_⟩
    rw [hK]
    unfold gRev at h1
    split at h1
    · obtain ⟨p, xs, rfl, hp, rx⟩ := rp_list r1
      exact ⟨p, xs, rfl, .inl (.inl (Fz_sub _ _ hp)), fun l hl => new_list I1 rx.reverse (kE_ext x1 h1) hl⟩
    · exact h1.elim
/-! ### a < b < c -/
def CmpP (X : Cx) (G : Gx) (op : CmpOp) (g : Dat → Dat → Sto → Res Dat) : Prop := ∃ r, OpR X (compareOp op) r ∧ OpD G r g
theorem cp_lt : CmpP X G .Lt (gIB fun i j => decide (i < j)) := ⟨_, op_lt, opIB⟩
theorem cp_le : CmpP X G .LtE (gIB fun i j => decide (i ≤ j)) := ⟨_, op_le, opIB⟩
theorem cp_gt : CmpP X G .Gt (gIB fun i j => decide (j < i)) := ⟨_, op_gt, opIB⟩
theorem cp_ge : CmpP X G .GtE (gIB fun i j => decide (j ≤ i)) := ⟨_, op_ge, opIB⟩
theorem cp_eq (hu : X.A.units + 64 < cLine) (hK : X.K = G.K) : CmpP X G .Eq gEq := ⟨_, op_eqD hu, by rw [hK]; exact opEq⟩
theorem cp_ne (hu : X.A.units + 64 < cLine) (hK : X.K = G.K) : CmpP X G .NotEq gNe := ⟨_, op_neD hu, by rw [hK]; exact opNe⟩
@[simp] def fChain (g g' : Dat → Dat → Sto → Res Dat) (Fa Fb Fc : FE) : FE := fun e s => (Fa e s).bind fun a s1 => (Fb e s1).bind fun b s2 => (g a b s2).bind fun k s3 => match k with
  | .bool true => (Fc e s3).bind fun c s4 => g' b c s4
  | .bool false => .ok (.bool false) s3
  | _ => .bad
theorem chain_of {r r' : R2} {g g' : Dat → Dat → Sto → Res Dat} {Fa Fb Fc : FE} (hg : OpD G r g) (hg' : OpD G r' g') {σ : L2.St} {H : Hp} {Q : VK} (h : tE G (fChain g g' Fa Fb Fc) σ H Q) : tChain r r' (tE G Fa) (tE G Fb) (tE G Fc) σ H Q := by
  obtain ⟨w, e, s, I, h⟩ := h
  refine ⟨w, e, s, I, holds_imp (holds_bind h) fun a s1 h1 w1 x H1 I1 x1 r1 => ?_⟩
  refine ⟨w1, e, s1, I1, holds_imp (holds_bind h1) fun b s2 h2 w2 y H2 I2 x2 r2 => ?_⟩
  refine hg w2 e s2 σ H2 x y a b _ I2 (x2.rp r1) r2 (holds_imp (holds_bind h2) fun d s3 h3 w3 z H3 I3 x3 r3 => ?_)
  split at h3
  · refine ⟨true, rp_bool r3, ?_⟩
    rw [if_pos rfl]
    refine ⟨w3, e, s3, I3, holds_imp (holds_bind h3) fun c s4 h4 w4 z4 H4 I4 x4 r4 => ?_⟩
    exact hg' w4 e s4 σ H4 y z4 b c Q I4 ((x3.trans x4).rp r2) r4 (holds_imp h4 fun d s5 h5 => kE_ext (x1.trans (x2.trans (x3.trans x4))) h5)
  · refine ⟨false, rp_bool r3, ?_⟩
    rw [if_neg (by decide)]
    exact h3 w3 _ H3 I3 (x1.trans (x2.trans x3)) rp_b
  · exact h3.elim
theorem de_chain {a b c : Expr} {pos : Pos} {op op' : CmpOp} {g g' : Dat → Dat → Sto → Res Dat} {Fa Fb Fc : FE} (h1 : CmpP X G op g) (h2 : CmpP X G op' g') (ha : PE X a (tE G Fa)) (hb : PE X b (tE G Fb)) (hc : PE X c (tE G Fc)) (hm : lastMarks [op, op'] [b, c] = false := by with_unfolding_all rfl) :
    PE X (.Compare a [op, op'] [b, c] pos) (tE G (fChain g g' Fa Fb Fc)) := by
  obtain ⟨r, h1, h1'⟩ := h1
  obtain ⟨r', h2, h2'⟩ := h2
  exact PE_imp (pe_chain h1 h2 ha hb hc hm) fun _ _ _ h => chain_of h1' h2' h
theorem dt_chain {a b c : Expr} {pos : Pos} {op op' : CmpOp} {g g' : Dat → Dat → Sto → Res Dat} {Fa Fb Fc : FE} (h1 : CmpP X G op g) (h2 : CmpP X G op' g') (ha : PE X a (tE G Fa)) (hb : PE X b (tE G Fb)) (hc : PE X c (tE G Fc)) (hm : lastMarks [op, op'] [b, c] = false := by with_unfolding_all rfl) :
    PT X (.Compare a [op, op'] [b, c] pos) (tT G (fB (fChain g g' Fa Fb Fc))) := by
  obtain ⟨r, h1, h1'⟩ := h1
  obtain ⟨r', h2, h2'⟩ := h2
  refine PT_imp (pt_chain h1 h2 ha hb hc hm) fun σ H Q h => ?_
  obtain ⟨w, e, s, I, h⟩ := h
  show tChain r r' (tE G Fa) (tE G Fb) (tE G Fc) σ H fun x H' => ∃ k, x = .bl k ∧ Q k H'
  refine chain_of h1' h2' ⟨w, e, s, I, holds_imp (holds_bind h) fun d s1 h1 w1 x H1 I1 x1 r1 => ?_⟩
  split at h1
  · rename_i b
    exact ⟨b, rp_bool r1, h1 w1 H1 I1 x1⟩
  · exact h1.elim
/-! ### what stands at the top of a module -/
/-- the written value u is the datum d -/
def Wr (K : PySem.W.Frag) (d : Dat) (u : Value) : Prop := ∃ v, RelV v u ∧ ∀ F as, Rp K as F d v
def WrL (K : PySem.W.Frag) (ds : List Dat) (us : List Value) : Prop := ∃ vs, Vals vs us ∧ ∀ F as, RpL K as F ds vs
def Top (K : PySem.W.Frag) (mg : Str → Option Value) (x : Str) (d : Dat) : Prop := ∃ u, mg x = some u ∧ Wr K d u
theorem wr_int {K : PySem.W.Frag} {i : Int} {t} : Wr K (.int i) (.int i t) := ⟨.int i, ⟨t, rfl⟩, fun _ _ => rp_i⟩
theorem wr_str {K : PySem.W.Frag} {i : Str} {t} : Wr K (.str i) (.str i t) := ⟨.str i, ⟨t, rfl⟩, fun _ _ => rp_s⟩
theorem wr_nil {K : PySem.W.Frag} : WrL K [] [] := ⟨[], .nil, fun _ _ => RpL.nil⟩
theorem wr_cons {K : PySem.W.Frag} {d : Dat} {u : Value} {ds : List Dat} {us : List Value} (h : Wr K d u) (h2 : WrL K ds us) : WrL K (d :: ds) (u :: us) := by
  obtain ⟨v, r, p⟩ := h
  obtain ⟨vs, rs, ps⟩ := h2
  exact ⟨v :: vs, .cons r rs, fun F as => RpL.cons (p F as) (ps F as)⟩
theorem wr_tup {K : PySem.W.Frag} {ds : List Dat} {a : Addr} {od : Option Addr} {us : List Value} {n : Nat} {sl : Array (Option Value)} (l : K.lookup a = some ⟨.type "tuple", od, .seq us.toArray n, sl⟩) (h : WrL K ds us) (hz : us.length ≤ sizeLine := by simp [sizeLine_eq]) : Wr K (.tuple ds) (.ref a) := by
  obtain ⟨vs, rs, ps⟩ := h
  refine ⟨.ref a, rfl, fun F as => ?_⟩
  simp only [Rp]
  exact ⟨a, vs, rfl, .inr ⟨_, _, _, l, rfl, rfl, by simpa using hz, by simpa using rs⟩, ps F as⟩
theorem de_top {x : Str} {d : Dat} {pos : Pos} (t : Top G.K X.mg x d) (hg : Gl X x := by rfl) (hd : (x == ("__debug__" : Str)) = false := by decide) : PE X (.Name x pos) (tE G (fC d)) := by
  obtain ⟨u, hm, v, r, p⟩ := t
  exact de_glob hm r p hg hd
end
end DL

namespace DL
open PySem PySem.Spec PyProof.Rows L2
section
variable {X : Cx} {G : Gx}
/-! ### x.extend(a new list) -/
@[simp] def sExtend (i : Nat) (F : FA) : FS := fun e s => match e[i]? with
  | some (.ow (.ls ds)) => (F e s).flo e fun ys s1 => if ds.length + ys.length ≤ sizeLine then .nx (e.set i (.ow (.ls (ds ++ ys)))) s1 else .bad
  | _ => .bad
theorem ds_extend (i : Nat) {x : Str} {a : Expr} {px apos cpos pos : Pos} {F : FA} (ha : PE X a (tN G F)) (hi : X.N[i]? = some x := by rfl) (hx : Vis X.env.scope x := by first | exact Or.inl rfl | exact Or.inr (Or.inl rfl) | exact Or.inr (Or.inr rfl)) (hd : (x == ("__debug__" : Str)) = false := by decide) (hcd : (x == ("__classdict__" : Str)) = false := by decide)
    (hsw : swapsWith (.Call (.Attribute (.Name x px) "extend" apos) [a] [] cpos) none pos.line X.env = pure false := by rfl)
    (hbase : attributeBase (.Name x px) "extend" X.env (eval (.Name x px) X.env) = eval (.Name x px) X.env := by rfl)
    (hfew : ((backTo cpos (starEach [a] X.env)).all (fun x => !x.1) && (backToKw cpos (keywordEach [] X.env)).all (fun x => x.1.isSome)
      && decide (([a] : List Expr).length + ([] : List Keyword).length + (if ([] : List Keyword).isEmpty then 0 else 1) < 30)) = true := by rfl)
    (hline : (apos.endLine == cpos.line) = true := by rfl) (hs1 : starEach [a] X.env = (false, eval a X.env) :: starEach [] X.env := by rfl) (hplain : (backTo cpos (starEach [] X.env)).any (·.1) = false := by rfl) :
    PS X (.Expr (.Call (.Attribute (.Name x px) "extend" apos) [a] [] cpos) pos) (tS G (sExtend i F)) :=
  PS_imp (ps_expr (pe_bm PySem.F.plainAttrs_list PySem.F.slot_list_extend PySem.F.type_list_extend mt_extend (pe_var (i := i) hi hx hd hcd) (pa_cons ha pa_nil hs1) hbase hfew hline hs1 hplain) hsw) fun D σ H ⟨w, e, s, I, h⟩ => by
    unfold sExtend at h
    split at h
    · rename_i ds hds
      obtain ⟨p, vs, g1, g2, g3, g4, g5, g6⟩ := I.ownL hds
      refine ⟨.ref p, g1, Or.inl ⟨rfl, _, Or.inl (Or.inl g5)⟩, w, e, s, I, holds_imp (flo_holds h) fun ys s1 h1 w1 q us H1 I1 x1 k1 k2 k3 k4 k5 k6 => ?_⟩
      split at h1
      · rename_i c
        obtain ⟨p', vs', l1, l2, l3, l4, l5, l6⟩ := I1.ownL hds
        rw [g1] at l1; cases l1
        refine ⟨p, q, vs', us, rfl, rfl, l5, k5, by rw [l6.length, k6.length]; exact c, ?_⟩
        refine h1 w1 σ _ (I1.writeOwn hds g1 (cr_ls (l6.append k6))) (x1.trans (write_f l2))
      · exact h1.elim
    · exact h.elim
/-! ### x, y = [..], b with a list of one's own -/
@[simp] def sParOwn (i j : Nat) (Fs : FA) (Fb : FE) : FS := fun e s => (Fs e s).flo e fun ds s1 => if ds.length ≤ sizeLine then (Fb e s1).flo e fun d s2 => if i < e.length ∧ j < e.length then .nx ((e.set i (.ow (.ls ds))).set j (.fz d)) s2 else .bad else .bad
theorem ds_parOwn (i j : Nat) {x y : Str} {es : List Expr} {b : Expr} {Fs : FA} {Fb : FE} {px py pt pos pos2 : Pos} {kt k2 pt2} (hc : X.calm = true) (hN : X.N.Nodup) (ha : PA X es (tA G Fs)) (hb : PE X b (tE G Fb)) (hi : X.N[i]? = some x := by rfl) (hj : X.N[j]? = some y := by rfl) (hij : i ≠ j := by decide)
    (hx : X.env.scope.names.lookup x = some .local := by rfl) (hy : X.env.scope.names.lookup y = some .local := by rfl)
    (hw : swappedStores [.Tuple [.Name x px, .Name y py] kt pt] (.Tuple [.List es pos2, b] k2 pt2) X.env = pure (some [x, y]) := by rfl)
    (hs : swapsWithSole [.Tuple [.Name x px, .Name y py] kt pt] (.Tuple [.List es pos2, b] k2 pt2) pos.line X.env = pure false := by rfl)
    (hs1 : starEach [.List es pos2, b] X.env = (false, eval (.List es pos2) X.env) :: starEach [b] X.env := by rfl) (hs2 : starEach [b] X.env = (false, eval b X.env) :: starEach [] X.env := by rfl) :
    PS X (.Assign [.Tuple [.Name x px, .Name y py] kt pt] (.Tuple [.List es pos2, b] k2 pt2) pos) (tS G (sParOwn i j Fs Fb)) := PS_imp (ps_par hc hN hi hj hij hx hy (pa_cons (pe_lst ha) (pa_cons hb pa_nil hs2) hs1) hw hs) fun D σ H ⟨w, e, s, I, h⟩ => by
  refine ⟨w, e, s, I, holds_imp (flo_holds h) fun ds s1 h1 w1 vs H1 I1 x1 r1 => ?_⟩
  split at h1
  · rename_i hlen
    refine ⟨by rw [r1.length]; exact hlen, fun p hp => ?_⟩
    refine ⟨w1.plus p, e, s1, I1.plus hp, holds_imp (flo_holdsF h1) (fun d s2 h2 w2 v H2 I2 x2 r2 => ?_) fun y s2 h2 w2 H2 cls dd I2 x2 rr => ?_⟩
    · split at h2
      · rename_i c
        refine ⟨_, _, rfl, ?_⟩
        have ow : w2.ow p := by rw [x2.ow]; exact .inr rfl
        have hH : H2 p = some (.lst vs) := (x2.own p (.inr rfl)).trans upd_same
        have rr : RpL G.K w2.as (Fz w2 H2) ds vs := x2.rpl (by rw [Fz_plus hp]; exact r1)
        exact h2 w2 _ H2 ((I2.setOwn c.1 ow (I1.fresh0 hp) (I1.freshO0 hp) (I1.lone hp) hH (cr_ls rr)).set (by rw [List.length_set]; exact c.2) r2) (x1.f.trans ((plus_f hp).trans x2.f))
      · exact h2.elim
    · exact h2 w2 σ H2 cls dd I2 (x1.f.trans ((plus_f hp).trans x2.f)) rr
  · exact h1.elim
end
end DL

namespace DL
open PySem PySem.Spec PyProof.Rows L2
section
variable {X : Cx} {G : Gx}
/-! ### dicts of one's own, keys ints or texts -/
def keyOf : Dat → Option Key
  | .int i => some (.inl i)
  | .str z => some (.inr z)
  | _ => none
theorem key_rp {K : PySem.W.Frag} {as : List Addr} {F : Hp} {d : Dat} {v : V} {k : Key} (r : Rp K as F d v) (h : keyOf d = some k) : v = kV k := by
  cases d with
  | int i => simp only [keyOf, Option.some.injEq] at h; subst h; exact rp_int r
  | str z => simp only [keyOf, Option.some.injEq] at h; subst h; exact rp_str r
  | _ => simp [keyOf] at h
def getK {κ : Type} [DecidableEq κ] (kvs : List (κ × Dat)) (k : κ) : Option Dat := (kvs.find? fun kv => decide (kv.1 = k)).map (·.2)
def putD {κ : Type} [DecidableEq κ] (kvs : List (κ × Dat)) (k : κ) (d : Dat) : List (κ × Dat) := if (kvs.any fun kv => decide (kv.1 = k)) = true then kvs.map fun kv => if kv.1 = k then (kv.1, d) else kv else kvs ++ [(k, d)]
/-- a dict's lines and how they lie -/
abbrev zipK {κ : Type} (kvs : List (κ × Dat)) (vs : List V) : List (κ × V) := (kvs.map Prod.fst).zip vs
theorem get_rp {κ : Type} [DecidableEq κ] {K : PySem.W.Frag} {as : List Addr} {F : Hp} (k : κ) : ∀ {kvs : List (κ × Dat)} {vs : List V}, RpL K as F (kvs.map Prod.snd) vs →
    (getK kvs k = none ∧ valV (zipK kvs vs) k = none) ∨ ∃ d v, getK kvs k = some d ∧ valV (zipK kvs vs) k = some v ∧ Rp K as F d v
  | [], [], _ => .inl ⟨rfl, rfl⟩
  | (k', d) :: kvs, v :: vs, h => by
    simp only [List.map_cons, RpL] at h
    by_cases e : k' = k
    · refine .inr ⟨d, v, ?_, ?_, h.1⟩
      · simp [getK, e]
      · exact valV_pos e
    · have ih := get_rp k (kvs := kvs) (vs := vs) h.2
      have e1 : getK ((k', d) :: kvs) k = getK kvs k := by simp [getK, e]
      have e2 : valV (zipK ((k', d) :: kvs) (v :: vs)) k = valV (zipK kvs vs) k := valV_neg e
      rw [e1, e2]
      exact ih
  | [], _ :: _, h => by simp [RpL] at h
  | _ :: _, [], h => by simp [RpL] at h
theorem any_zip {κ : Type} [DecidableEq κ] (k : κ) : ∀ {kvs : List (κ × Dat)} {vs : List V}, vs.length = kvs.length → ((zipK kvs vs).any fun kv => decide (kv.1 = k)) = (kvs.any fun kv => decide (kv.1 = k))
  | [], [], _ => rfl
  | (k', d) :: kvs, v :: vs, h => by
    have ih := any_zip k (kvs := kvs) (vs := vs) (by simpa using h)
    simp only [zipK, List.map_cons, List.zip_cons_cons, List.any_cons] at ih ⊢
    rw [ih]
  | [], _ :: _, h => by simp at h
  | _ :: _, [], h => by simp at h
theorem map_zip {κ : Type} [DecidableEq κ] {K : PySem.W.Frag} {as : List Addr} {F : Hp} {k : κ} {d : Dat} {v : V} (hd : Rp K as F d v) : ∀ {kvs : List (κ × Dat)} {vs : List V}, RpL K as F (kvs.map Prod.snd) vs →
    ∃ vs', (zipK kvs vs).map (fun kv => if kv.1 = k then (kv.1, v) else kv) = zipK (kvs.map fun kv => if kv.1 = k then (kv.1, d) else kv) vs' ∧ RpL K as F ((kvs.map fun kv => if kv.1 = k then (kv.1, d) else kv).map Prod.snd) vs'
  | [], [], _ => ⟨[], rfl, RpL.nil⟩
  | (k', d') :: kvs, v' :: vs, h => by
    simp only [List.map_cons, RpL] at h
    obtain ⟨vs', e, r⟩ := map_zip hd (kvs := kvs) (vs := vs) h.2
    by_cases q : k' = k
    · refine ⟨v :: vs', ?_, ?_⟩
      · simp only [zipK, List.map_cons, List.zip_cons_cons, if_pos q] at e ⊢
        rw [e]
      · simp only [List.map_cons, if_pos q]
        exact RpL.cons hd r
    · refine ⟨v' :: vs', ?_, ?_⟩
      · simp only [zipK, List.map_cons, List.zip_cons_cons, if_neg q] at e ⊢
        rw [e]
      · simp only [List.map_cons, if_neg q]
        exact RpL.cons h.1 r
  | [], _ :: _, h => by simp [RpL] at h
  | _ :: _, [], h => by simp [RpL] at h
theorem put_rp {κ : Type} [DecidableEq κ] {K : PySem.W.Frag} {as : List Addr} {F : Hp} {k : κ} {d : Dat} {v : V} (hd : Rp K as F d v) {kvs : List (κ × Dat)} {vs : List V} (h : RpL K as F (kvs.map Prod.snd) vs) :
    ∃ vs', putK (zipK kvs vs) k v = zipK (putD kvs k d) vs' ∧ RpL K as F ((putD kvs k d).map Prod.snd) vs' := by
  have hl : vs.length = kvs.length := by rw [h.length, List.length_map]
  unfold putK putD
  rw [any_zip k hl]
  by_cases q : (kvs.any fun kv => decide (kv.1 = k)) = true
  · rw [if_pos q, if_pos q]
    exact map_zip hd h
  · rw [if_neg q, if_neg q]
    refine ⟨vs ++ [v], ?_, ?_⟩
    · unfold zipK
      rw [List.map_append, List.zip_append (by rw [List.length_map, hl])]
      rfl
    · rw [List.map_append]
      exact h.append (RpL.one hd)
/-- x = {} -/
@[simp] def sDict (i : Nat) : FS := fun e s => if i < e.length then .nx (e.set i (.ow (.dk []))) s else .bad
theorem ds_dict (i : Nat) {y : Str} {pos pos' pos2 : Pos} (hN : X.N.Nodup) (hi : X.N[i]? = some y := by rfl) (hx : Loc X.env.scope y := by first | exact Or.inl rfl | exact Or.inr rfl) (hs : swapsWith (.Dict [] [] pos2) (some (.Name y pos')) pos.line X.env = pure false := by rfl)
    (hf : X.fn y = true ∨ X.env.scope.names.lookup y = some .local := by first | exact .inl rfl | exact .inr rfl) : PS X (.Assign [.Name y pos'] (.Dict [] [] pos2) pos) (tS G (sDict i)) :=
  PS_imp (ps_set hN hi hx pe_dnewK hs hf) fun D σ H ⟨w, e, s, I, h⟩ => by
    intro p hp
    unfold sDict at h
    split at h
    · rename_i c
      exact h (w.plus p) _ _ ((I.plus hp).setOwn c (.inr rfl) (I.fresh0 hp) (I.freshO0 hp) (I.lone hp) upd_same ⟨[], rfl, RpL.nil⟩) (plus_f hp)
    · exact h.elim
theorem IE.ownD {w : Wd} {e : Lcs} {s : Sto} {σ : L2.St} {H : Hp} (I : IE G w e s σ H) {i : Nat} {kvs : List (Key × Dat)} (h : e[i]? = some (.ow (.dk kvs))) : ∃ p vs, σ[i]? = some (some (.ref p)) ∧ w.ow p ∧ G.H0 p = none ∧ ¬ G.O0 p ∧ H p = some (.dK (zipK kvs vs)) ∧ RpL G.K w.as (Fz w H) (kvs.map Prod.snd) vs := by
  obtain ⟨p, ho, h1, h2, h3, h4, h5, vs, rfl, h6⟩ := I.own i _ h
  exact ⟨p, vs, h1, h2, h3, h4, h5, h6⟩
/-- k in x, x[k], x[k] = v -/
@[simp] def fHas (i : Nat) (no : Bool) (Fk : FE) : FE := fun e s => (Fk e s).bind fun k s1 => match e[i]?, keyOf k with
  | some (.ow (.dk kvs)), some z => .ok (.bool (no != (getK kvs z).isSome)) s1
  | _, _ => .bad
theorem has_of {i : Nat} {no : Bool} {Fk : FE} {σ : L2.St} {H : Hp} {Q : VK} (h : tE G (fHas i no Fk) σ H Q) : tE G Fk σ H fun y H1 => tVar i σ H1 fun x H2 => ∃ a o, x = .ref a ∧ DGet H2 a y o ∧ Q (.bl (no != o.isSome)) H2 := by
  obtain ⟨w, e, s, I, h⟩ := h
  refine ⟨w, e, s, I, holds_imp (holds_bind h) fun k s1 h1 w1 y H1 I1 x1 r1 => ?_⟩
  split at h1
  · rename_i kvs z hi hz
    obtain ⟨p, vs, g1, g2, g3, g4, g5, g6⟩ := I1.ownD hi
    have ey := key_rp r1 hz
    refine ⟨.ref p, g1, p, _, rfl, .inl ⟨_, z, .inl g5, ey, rfl⟩, ?_⟩
    rcases get_rp z g6 with ⟨e1, e2⟩ | ⟨d, v, e1, e2, _⟩
    · rw [e2]
      rw [e1] at h1
      exact h1 w1 _ H1 I1 x1 rp_b
    · rw [e2]
      rw [e1] at h1
      exact h1 w1 _ H1 I1 x1 rp_b
  · exact h1.elim
theorem de_has (i : Nat) {x : Str} {a : Expr} {px pos : Pos} {Fk : FE} (hu : X.A.units + 1 < cLine) (hk : PE X a (tE G Fk)) (hN : X.N[i]? = some x := by rfl) (hv : Vis X.env.scope x := by first | exact Or.inl rfl | exact Or.inr (Or.inl rfl) | exact Or.inr (Or.inr rfl)) (hd : (x == ("__debug__" : Str)) = false := by decide)
    (hcd : (x == ("__classdict__" : Str)) = false := by decide) (hm : behindInMarks .In (.Name x px) = false := by first | exact nomark _ | with_unfolding_all rfl) : PE X (.Compare a [.In] [.Name x px] pos) (tE G (fHas i false Fk)) :=
  PE_imp (pe_cmp (pc_din hu hk (pe_var (i := i) hN hv hd hcd)) hm) fun σ H Q h => by
    have h := has_of h
    simp only [Bool.false_bne] at h
    exact h
theorem de_hasNot (i : Nat) {x : Str} {a : Expr} {px pos : Pos} {Fk : FE} (hu : X.A.units + 1 < cLine) (hk : PE X a (tE G Fk)) (hN : X.N[i]? = some x := by rfl) (hv : Vis X.env.scope x := by first | exact Or.inl rfl | exact Or.inr (Or.inl rfl) | exact Or.inr (Or.inr rfl)) (hd : (x == ("__debug__" : Str)) = false := by decide)
    (hcd : (x == ("__classdict__" : Str)) = false := by decide) (hm : behindInMarks .NotIn (.Name x px) = false := by first | exact nomark _ | with_unfolding_all rfl) : PE X (.Compare a [.NotIn] [.Name x px] pos) (tE G (fHas i true Fk)) :=
  PE_imp (pe_cmp (pc_dnotin hu hk (pe_var (i := i) hN hv hd hcd)) hm) fun σ H Q h => by
    have h := has_of h
    simp only [Bool.true_bne] at h
    exact h
@[simp] def fGetOwn (i : Nat) (Fk : FE) : FE := fun e s => match e[i]? with
  | some (.ow (.dk kvs)) => (Fk e s).bind fun k s1 => match keyOf k with
    | some z => match getK kvs z with
      | some d => .ok d s1
      | none => .bad
    | none => .bad
  | _ => .bad
@[simp] def sPutOwn (i : Nat) (Fk Fv : FE) : FS := fun e s => (Fv e s).flo e fun d s1 => match e[i]? with
  | some (.ow (.dk kvs)) => (Fk e s1).flo e fun k s2 => match keyOf k with
    | some z => if kvs.length < sizeLine then .nx (e.set i (.ow (.dk (putD kvs z d)))) s2 else .bad
    | none => .bad
  | _ => .bad
theorem ds_putOwn (i : Nat) {x : Str} {k v : Expr} {pos p2 px : Pos} {Fk Fv : FE} (hu : X.A.units + 1 < cLine) (hv : PE X v (tE G Fv)) (hk : PE X k (tE G Fk)) (hN : X.N[i]? = some x := by rfl) (hvis : Vis X.env.scope x := by first | exact Or.inl rfl | exact Or.inr (Or.inl rfl) | exact Or.inr (Or.inr rfl)) (hd : (x == ("__debug__" : Str)) = false := by decide)
    (hcd : (x == ("__classdict__" : Str)) = false := by decide) (hs : swapsWith v (some (.Subscript (.Name x px) k p2)) pos.line X.env = pure false := by rfl) : PS X (.Assign [.Subscript (.Name x px) k p2] v pos) (tS G (sPutOwn i Fk Fv)) :=
  PS_imp (ps_dput hu (pe_var (i := i) hN hvis hd hcd) hk hv hs) fun D σ H ⟨w, e, s, I, h⟩ => by
    unfold sPutOwn at h
    refine ⟨w, e, s, I, holds_imp (flo_holds h) fun d s1 h1 w1 vv H1 I1 x1 r1 => ?_⟩
    split at h1
    · rename_i kvs hi
      obtain ⟨p, ho, g1, g2, g3, g4, g5, g6⟩ := I1.own i _ hi
      refine ⟨.ref p, g1, w1, e, s1, I1, holds_imp (flo_holds h1) fun k s2 h2 w2 y H2 I2 x2 r2 => ?_⟩
      split at h2
      · rename_i z hz
        split at h2
        · rename_i cl
          obtain ⟨p', vs, l1, l2, l3, l4, l5, l6⟩ := I2.ownD hi
          rw [g1] at l1; cases l1
          obtain ⟨vs', e1, r'⟩ := put_rp (k := z) (x2.rp r1) l6
          refine ⟨p, _, rfl, .inl ⟨_, z, l5, key_rp r2 hz, ?_, rfl⟩, ?_⟩
          · have hl : vs.length = kvs.length := by rw [l6.length, List.length_map]
            simpa [zipK, hl] using cl
          · rw [e1]
            exact h2 w2 σ _ (I2.writeOwn hi g1 ⟨vs', rfl, r'⟩) ((x1.trans x2).f.trans (write_f l2))
        · exact h2.elim
      · exact h2.elim
    · exact h1.elim
end
end DL

namespace DL
open PySem PySem.Spec PyProof.Rows L2
section
variable {X : Cx} {G : Gx}
/-! ### k in a dict of one's own: x[k] -/
theorem de_getOwn (i : Nat) {x : Str} {k : Expr} {px pos : Pos} {Fk : FE} (hu : X.A.units + 1 < cLine) (hk : PE X k (tE G Fk)) (hs : NoSl k := by exact fun _ _ => rfl) (hN : X.N[i]? = some x := by rfl) (hv : Vis X.env.scope x := by first | exact Or.inl rfl | exact Or.inr (Or.inl rfl) | exact Or.inr (Or.inr rfl)) (hd : (x == ("__debug__" : Str)) = false := by decide)
    (hcd : (x == ("__classdict__" : Str)) = false := by decide) : PE X (.Subscript (.Name x px) k pos) (tE G (fGetOwn i Fk)) :=
  PE_imp (pe_dget hu (pe_var (i := i) hN hv hd hcd) hk hs) fun σ H Q ⟨w, e, s, I, h⟩ => by
    unfold fGetOwn at h
    split at h
    · rename_i kvs hi
      obtain ⟨p, ho, g1, g2, g3, g4, g5, g6⟩ := I.own i _ hi
      refine ⟨.ref p, g1, w, e, s, I, holds_imp (holds_bind h) fun d s1 h1 w1 y H1 I1 x1 r1 => ?_⟩
      split at h1
      · rename_i z hz
        obtain ⟨p', vs, l1, l2, l3, l4, l5, l6⟩ := I1.ownD hi
        rw [g1] at l1; cases l1
        split at h1
        · rename_i dd hg
          rcases get_rp z l6 with ⟨e1, e2⟩ | ⟨d2, v, e1, e2, r2⟩
          · rw [e1] at hg; cases hg
          · rw [e1] at hg; cases hg
            exact ⟨p, v, rfl, .inl ⟨_, z, .inl l5, key_rp r1 hz, e2.symm⟩, h1 w1 v H1 I1 x1 r2⟩
        · exact h1.elim
      · exact h1.elim
    · exact h.elim
/-! ### [.., *a, ..] -/
@[simp] def fStar (Fa : FE) (Fs : FA) : FA := fun e s => (Fa e s).bind fun d s1 => match d with
  | .list xs => (Fs e s1).bind fun ys s2 => .ok (xs ++ ys) s2
  | .tuple xs => (Fs e s1).bind fun ys s2 => .ok (xs ++ ys) s2
  | _ => .bad
theorem da_star {a : Expr} {es : List Expr} {p : Pos} {Fa : FE} {Fs : FA} (hK : X.K = G.K) (ha : PE X a (tE G Fa)) (hs : PA X es (tA G Fs)) (h1 : starEach (a.Starred p :: es) X.env = (true, eval a X.env) :: starEach es X.env := by rfl) : PA X (.Starred a p :: es) (tA G (fStar Fa Fs)) :=
  PA_imp (StX.pa_star ha hs h1) fun σ H Q ⟨w, e, s, I, h⟩ => by
    rw [hK]
    refine ⟨w, e, s, I, holds_imp (holds_bind h) fun d s1 h1 w1 v H1 I1 x1 r1 => ?_⟩
    split at h1
    · rename_i xs
      obtain ⟨q, us, rfl, hp, rx⟩ := rp_list r1
      refine ⟨q, us, rfl, .inr (.inl (.inl (Fz_sub _ _ hp))), w1, e, s1, I1, holds_imp (holds_bind h1) fun ys s2 h2 w2 vs H2 I2 x2 r2 => ?_⟩
      exact h2 w2 _ H2 I2 (x1.trans x2) ((x2.rpl rx).append r2)
    · rename_i xs
      obtain ⟨q, us, rfl, hp, rx⟩ := rp_tuple r1
      refine ⟨q, us, rfl, .inl (sqT_mono Fz_sub hp), w1, e, s1, I1, holds_imp (holds_bind h1) fun ys s2 h2 w2 vs H2 I2 x2 r2 => ?_⟩
      exact h2 w2 _ H2 I2 (x1.trans x2) ((x2.rpl rx).append r2)
    · exact h1.elim
/-! ### what is never reached -/
@[simp] def sBad : FS := fun _ _ => .bad
theorem ds_bad {st : Stmt} : PS X st (tS G sBad) := PS_imp ps_never fun D σ H ⟨w, e, s, I, h⟩ => h
/-! ### a.join(xs) -/
def strs? : List Dat → Option (List Str)
  | [] => some []
  | .str z :: r => (strs? r).map (z :: ·)
  | _ :: _ => none
theorem strs_vals {K : PySem.W.Frag} {as : List Addr} {F : Hp} : ∀ {xs : List Dat} {zs : List Str} {vs : List V}, strs? xs = some zs → RpL K as F xs vs → vs = zs.map V.str
  | [], zs, vs, h, r => by
    simp [strs?] at h; subst h
    cases vs with
    | nil => rfl
    | cons _ _ => simp [RpL] at r
  | .str z :: xs, zs, vs, h, r => by
    simp only [strs?, Option.map_eq_some_iff] at h
    obtain ⟨ys, h1, rfl⟩ := h
    cases vs with
    | nil => simp [RpL] at r
    | cons v vs =>
      simp only [RpL] at r
      rw [strs_vals h1 r.2, rp_str r.1]; rfl
  | .none :: _, _, _, h, _ => by simp [strs?] at h
  | .bool _ :: _, _, _, h, _ => by simp [strs?] at h
  | .int _ :: _, _, _, h, _ => by simp [strs?] at h
  | .list _ :: _, _, _, h, _ => by simp [strs?] at h
  | .tuple _ :: _, _, _, h, _ => by simp [strs?] at h
  | .dict _ :: _, _, _, h, _ => by simp [strs?] at h
@[simp] def gJoin : Dat → Dat → Sto → Res Dat := fun a b s => match a, b with
  | .str z, .list xs => match strs? xs with
    | some ys => if (ys.map (·.length)).sum + ys.length * z.length ≤ 16777216 then .ok (.str (Txt.join z ys)) s else .bad
    | none => .bad
  | _, _ => .bad
@[simp] def fJoin (Fo Fa : FE) : FE := fun e s => (Fo e s).bind fun o s1 => match o with
  | .str z => (Fa e s1).bind fun xs s2 => gJoin (.str z) xs s2
  | _ => .bad
theorem de_join {o a : Expr} {apos pos : Pos} {Fo Fa : FE} (hK : X.K = G.K) (ho : PE X o (tE G Fo)) (ha : PE X a (tE G Fa)) (h1 : starEach [a] X.env = [(false, eval a X.env)] := by rfl) (h2 : attributeBase o "join" X.env (eval o X.env) = eval o X.env := by rfl) (h3 : (apos.endLine == pos.line) = true := by rfl) :
    PE X (.Call (.Attribute o "join" apos) [a] [] pos) (tE G (fJoin Fo Fa)) := PE_imp (pe_join ho ha h1 h2 h3) fun σ H Q ⟨w, e, s, I, h⟩ => by
  rw [hK]
  refine ⟨w, e, s, I, holds_imp (holds_bind h) fun x s1 h1 w1 xv H1 I1 x1 r1 => ?_⟩
  split at h1
  · rename_i z
    refine ⟨⟨z, rp_str r1⟩, w1, e, s1, I1, holds_imp (holds_bind h1) fun y s2 h2 w2 yv H2 I2 x2 r2 => ?_⟩
    cases y with
    | list xs =>
      simp only [gJoin] at h2
      split at h2
      · rename_i ys hys
        split at h2
        · rename_i c
          obtain ⟨p, us, rfl, hp, rx⟩ := rp_list r2
          have e := strs_vals hys rx
          subst e
          exact ⟨z, p, ys, rp_str r1, rfl, .inl (.inl (.inl (Fz_sub _ _ hp))), c, h2 w2 _ H2 I2 (x1.trans x2) rp_s⟩
        · exact h2.elim
      · exact h2.elim
    | _ => exact h2.elim
  · exact h1.elim
end
end DL

namespace DL
open PySem PySem.Spec PyProof.Rows L2
section
variable {X : Cx} {G : Gx}
/-! ### a comprehension with two fors -/
/-- within the inner for no object of one's own is at hand -/
@[simp] def stripE (e : Lcs) : Lcs := e.map fun z => match z with
  | .ow _ => .un
  | z => z
theorem strip_get {e : Lcs} {i : Nat} {z : Slt} (h : (stripE e)[i]? = some z) : (∀ c, z ≠ .ow c) ∧ ∀ d, z = .fz d → e[i]? = some (.fz d) := by
  unfold stripE at h
  rw [List.getElem?_map] at h
  cases q : e[i]? with
  | none => rw [q] at h; cases h
  | some y =>
    rw [q] at h
    simp only [Option.map_some, Option.some.injEq] at h
    cases y with
    | un => subst h; exact ⟨fun c z => (by cases z), fun d z => (by cases z)⟩
    | fz d => subst h; exact ⟨fun c z => (by cases z), fun d z => (by cases z; rfl)⟩
    | ow c => subst h; exact ⟨fun c z => (by cases z), fun d z => (by cases z)⟩
theorem IE.strip {w : Wd} {e : Lcs} {s : Sto} {σ : L2.St} {H : Hp} (I : IE G w e s σ H) : IE G w (stripE e) s σ H :=
  ⟨by unfold stripE; rw [List.length_map]; exact I.len, fun i d h => I.slot i d ((strip_get h).2 d rfl), fun i c h => absurd rfl ((strip_get h).1 c), fun i j p c c' h _ _ _ => absurd rfl ((strip_get h).1 c), I.slen, I.cells, I.nd, I.dis, I.beg, I.o0, I.there, I.keep, I.cfresh⟩
@[simp] def lc2L (F : FG) (C : FT) (Fj : FA) (F2 : FG) (C2 : FT) (Fe : FE) (vs1 : List Nat) (e : Lcs) : List Dat → Sto → Res (List Dat)
  | [], s => .ok [] s
  | d :: ds, s => (F d e s).noex.bind fun e1 s1 => (C e1 s1).noex.bind fun b s2 => if b then (Fj e1 s2).noex.bind fun es s3 => (lcL F2 C2 Fe (wipeE (stripE e1) vs1) es s3).bind fun ys s4 => (lc2L F C Fj F2 C2 Fe vs1 e ds s4).bind fun zs s5 => .ok (ys ++ zs) s5 else lc2L F C Fj F2 C2 Fe vs1 e ds s2
/-- no exception -/
def NoX {α : Type} (r : Res α) : Prop := ∀ x s, r ≠ .ex x s
theorem nox_ok {α : Type} {a : α} {s : Sto} : NoX (.ok a s) := fun _ _ h => by cases h
theorem nox_noex {α : Type} (r : Res α) : NoX r.noex := fun x s h => by
  cases r <;> simp at h
theorem nox_bind {α β : Type} {r : Res α} {f : α → Sto → Res β} (h : NoX r) (k : ∀ a s, NoX (f a s)) : NoX (r.bind f) := fun x s q => by
  cases r with
  | bad => simp at q
  | ok a s1 => exact k a s1 x s q
  | ex y s1 => exact h y s1 rfl
theorem nox_ite {α : Type} {c : Bool} {a b : Res α} (h : NoX a) (k : NoX b) : NoX (if c then a else b) := by cases c <;> assumption
theorem lcL_nox {F : FG} {C : FT} {Fe : FE} {e : Lcs} : ∀ (ds : List Dat) (s : Sto), NoX (lcL F C Fe e ds s)
  | [], _ => nox_ok
  | d :: ds, s => by
    unfold lcL
    refine nox_bind (nox_noex _) fun e1 s1 => nox_bind (nox_noex _) fun b s2 => nox_ite (nox_bind (nox_noex _) fun y s3 => nox_bind (lcL_nox ds s3) fun ys s4 => nox_ok) (lcL_nox ds s2)
theorem lc2L_nox {F : FG} {C : FT} {Fj : FA} {F2 : FG} {C2 : FT} {Fe : FE} {vs1 : List Nat} {e : Lcs} : ∀ (ds : List Dat) (s : Sto), NoX (lc2L F C Fj F2 C2 Fe vs1 e ds s)
  | [], _ => nox_ok
  | d :: ds, s => by
    unfold lc2L
    refine nox_bind (nox_noex _) fun e1 s1 => nox_bind (nox_noex _) fun b s2 => nox_ite (nox_bind (nox_noex _) fun y s3 => nox_bind (lcL_nox _ s3) fun ys s4 => nox_bind (lc2L_nox ds s4) fun _ _ => nox_ok) (lc2L_nox ds s2)
theorem holds_nox {α : Type} {r : Res α} {P : α → Sto → Prop} {R : Dat → Sto → Prop} (h : r.holds P R) (n : NoX r) (R' : Dat → Sto → Prop) : r.holds P R' := by
  cases r with
  | bad => exact h
  | ok a s => exact h
  | ex x s => exact absurd rfl (n x s)
@[simp] def fLc2 (Fi : FA) (F : FG) (C : FT) (Fj : FA) (F2 : FG) (C2 : FT) (Fe : FE) (vs vs1 : List Nat) : FE := fun e s => (Fi e s).bind fun ds s1 => (lc2L F C Fj F2 C2 Fe vs1 (wipeE e vs) ds s1).bind fun ys s2 => if decide (ys.length ≤ sizeLine) then .ok (.list ys) s2 else .bad
theorem holds_ok {α : Type} {r : Res α} {P : α → Sto → Prop} (h : r.holds P fun _ _ => False) : ∃ a s, r = .ok a s ∧ P a s := by
  cases r with
  | bad => exact h.elim
  | ok a s => exact ⟨a, s, rfl, h⟩
  | ex x s => exact h.elim
theorem wipe_back {σ σ4 : L2.St} {vs is : List Nat} (his : ∀ i ∈ is, i ∈ vs) (a4 : ∀ i, i ∉ is → σ4[i]? = (wipe σ vs)[i]?) (l4 : σ4.length = (wipe σ vs).length) : wipe σ4 vs = wipe σ vs := by
  have e1 : wipe σ4 vs = wipe (wipe σ vs) vs := wipe_eq l4 fun j hj => a4 j fun z => hj (his j z)
  have e2 : wipe (wipe σ vs) vs = wipe σ vs := wipe_eq (wipe_length σ vs) fun j hj => wipe_get hj
  exact e1.trans e2
theorem lc2_of {Fi : FA} {F : FG} {C : FT} {Fj : FA} {F2 : FG} {C2 : FT} {Fe : FE} {vs vs1 is is1 : List Nat} (his : ∀ i ∈ is, i ∈ vs) (his1 : ∀ i ∈ is1, i ∈ vs1) {σ : L2.St} {H : Hp} {Q : VK} (h : tE G (fLc2 Fi F C Fj F2 C2 Fe vs vs1) σ H Q) :
    tLc2 (tI G Fi) (tG G is F) (tT G C) (tI G Fj) (tG G is1 F2) (tT G C2) (tE G Fe) vs vs1 σ H Q := by
  obtain ⟨w, e, s, I, h⟩ := h
  refine ⟨w, e, s, I, holds_imp (holds_bind h) fun ds s1 h1 w1 H1 J I1 x1 W D hD => ?_⟩
  have lone : Lone (wipeE e vs) (wipe σ vs) D := (I1.wipe vs).lone hD
  have d0 : G.H0 D = none := I1.fresh0 hD
  have dn : ¬ w1.ow D := I1.freshO hD
  have d00 : ¬ G.O0 D := I1.freshO0 hD
  have I2 : IE G (w1.plus D) (wipeE e vs) s1 (wipe σ vs) (upd H1 D (.lst [])) := (I1.wipe vs).plus hD
  refine ⟨fun i m H2 => m = ds.length - i ∧ i ≤ ds.length ∧ ∃ w2 s2 acc avs, IE G w2 (wipeE e vs) s2 (wipe σ vs) H2 ∧ FExt w1 H1 w2 H2 ∧ w2.ow = (w1.plus D).ow ∧ (∀ a, w1.ow a → H2 a = H1 a) ∧ H2 D = some (.lst avs) ∧ RpL G.K w2.as (Fz w2 H2) acc avs ∧
      (lc2L F C Fj F2 C2 Fe vs1 (wipeE e vs) (ds.drop i) s2).holds (fun ys s3 => (acc ++ ys).length ≤ sizeLine ∧ kE G w1 e σ H1 Q (.list (acc ++ ys)) s3) (fun _ _ => False),
    ⟨ds.length, by omega, Nat.zero_le _, w1.plus D, s1, [], [], I2, plus_f hD, rfl, fun a ha => upd_ne fun (z : a = D) => dn (by rw [← z]; exact ha), upd_same, RpL.nil, ?_⟩, ?_⟩
  · refine holds_imp (holds_nox (holds_bind h1) (lc2L_nox _ _) _) fun ys s2 h2 => ?_
    split at h2
    · rename_i c
      exact ⟨by simpa using c, kE_ext x1 h2⟩
    · exact h2.elim
  rintro i m H2 ⟨rfl, hi, w2, s2, acc, avs, J2, x2, o2, k2, hD2, ra, q⟩
  have owD : w2.ow D := by rw [o2]; exact .inr rfl
  by_cases hlt : i < ds.length
  · refine .inr ⟨W.go w2 H2 x2 i hlt, fun H3 => ∃ w3 s3 acc avs, IE G w3 (wipeE e vs) s3 (wipe σ vs) H3 ∧ FExt w1 H1 w3 H3 ∧ w3.ow = (w1.plus D).ow ∧ (∀ a, w1.ow a → H3 a = H1 a) ∧ H3 D = some (.lst avs) ∧ RpL G.K w3.as (Fz w3 H3) acc avs ∧
        (lc2L F C Fj F2 C2 Fe vs1 (wipeE e vs) (ds.drop (i + 1)) s3).holds (fun ys s4 => (acc ++ ys).length ≤ sizeLine ∧ kE G w1 e σ H1 Q (.list (acc ++ ys)) s4) (fun _ _ => False), fun H3 k => ⟨ds.length - (i + 1), by omega, rfl, hlt, k⟩, fun v H3 y => ?_⟩
    obtain ⟨J3, x3, d, hd, rd⟩ := W.yld w2 _ s2 _ H2 H3 i v J2 x2 hlt y
    have ed : ds.drop i = d :: ds.drop (i + 1) := by
      rw [List.drop_eq_getElem_cons hlt]
      rw [List.getElem?_eq_getElem hlt] at hd
      cases hd
      rfl
    rw [ed] at q
    unfold lc2L at q
    have on : ∀ {w5 : Wd} {H5 : Hp}, EExt w2 H2 w5 H5 → FExt w1 H1 w5 H5 ∧ w5.ow = (w1.plus D).ow ∧ (∀ a, w1.ow a → H5 a = H1 a) ∧ H5 D = some (.lst avs) ∧ RpL G.K w5.as (Fz w5 H5) acc avs := fun {w5 H5} x =>
      ⟨x2.trans x.f, x.ow.trans o2, fun a ha => (x.own a (by rw [o2]; exact .inl ha)).trans (k2 a ha), (x.own D owD).trans hD2, x.rpl ra⟩
    refine ⟨w2, wipeE e vs, s2, d, J3, rd, holds_imp (holds_noex (holds_bind q) _) fun e4 s4 h4 w4 σ4 H4 I4 x4 a4 l4 => ?_⟩
    have hw : wipe σ4 vs = wipe σ vs := wipe_back his a4 l4
    refine ⟨hw, w4, e4, s4, I4, holds_imp (holds_noex (holds_bind h4) _) fun b s5 h5 w5 H5 I5 x5 => ?_⟩
    have x25 := x3.trans (x4.trans x5)
    cases b with
    | false =>
      simp only [Bool.false_eq_true, if_false] at h5
      obtain ⟨g1, g2, g3, g4, g5⟩ := on x25
      exact iteF ⟨w5, s5, acc, avs, J2.re x25 I5, g1, g2, g3, g4, g5, h5⟩
    | true =>
      simp only [if_true] at h5
      refine iteT ⟨w5, e4, s5, I5, holds_imp (holds_noex (holds_bind h5) _) fun es s6 h6 w6 H6 JJ I6 x6 W1 => ?_⟩
      have x26 := x25.trans x6
      obtain ⟨g1, g2, g3, g4, g5⟩ := on x26
      have ow6 : w6.ow D := by rw [g2]; exact .inr rfl
      have I6w : IE G w6 (wipeE (stripE e4) vs1) s6 (wipe σ4 vs1) H6 := I6.strip.wipe vs1
      have lone1 : Lone (wipeE (stripE e4) vs1) (wipe σ4 vs1) D := fun j c hj => by
        have nw : ∀ (vs : List Nat) (e : Lcs), (∀ (j : Nat) c, e[j]? ≠ some (.ow c)) → ∀ (j : Nat) c, (wipeE e vs)[j]? ≠ some (.ow c) := by
          intro vs
          induction vs with
          | nil => intro e h; exact h
          | cons v vs ih =>
            intro e h j c q
            unfold wipeE at q
            by_cases z : v = j
            · subst z
              by_cases hl : v < (wipeE e vs).length
              · rw [List.getElem?_set_self hl] at q; cases q
              · rw [List.getElem?_eq_none (by rw [List.length_set]; omega)] at q; cases q
            · rw [List.getElem?_set_ne z] at q
              exact ih e h j c q
        exact absurd hj (nw vs1 _ (fun j c h => (strip_get h).1 c rfl) j c)
      refine ⟨fun j k H7 => k = es.length - j ∧ j ≤ es.length ∧ ∃ w7 s7 acc7 avs7, IE G w7 (wipeE e vs) s7 (wipe σ vs) H7 ∧ IE G w7 (wipeE (stripE e4) vs1) s7 (wipe σ4 vs1) H7 ∧ FExt w6 H6 w7 H7 ∧ FExt w1 H1 w7 H7 ∧ w7.ow = (w1.plus D).ow ∧ (∀ a, w1.ow a → H7 a = H1 a) ∧ H7 D = some (.lst avs7) ∧ RpL G.K w7.as (Fz w7 H7) acc7 avs7 ∧
          (lcL F2 C2 Fe (wipeE (stripE e4) vs1) (es.drop j) s7).holds (fun ys s8 => (lc2L F C Fj F2 C2 Fe vs1 (wipeE e vs) (ds.drop (i + 1)) s8).holds (fun zs s9 => (acc7 ++ (ys ++ zs)).length ≤ sizeLine ∧ kE G w1 e σ H1 Q (.list (acc7 ++ (ys ++ zs))) s9) (fun _ _ => False)) (fun _ _ => False),
        ⟨es.length, by omega, Nat.zero_le _, w6, s6, acc, avs, J2.re x26 I6, I6w, .refl, g1, g2, g3, g4, g5, ?_⟩, ?_⟩
      · exact holds_imp (holds_bind h6) fun ys s7 h7 => holds_imp (holds_bind h7) fun zs s8 h8 => h8
      rintro j k H7 ⟨rfl, hj, w7, s7, acc7, avs7, Jo, Ji, x67, x17, o7, k7, hD7, r7, q7⟩
      have owD7 : w7.ow D := by rw [o7]; exact .inr rfl
      by_cases hlt1 : j < es.length
      · refine .inr ⟨W1.go w7 H7 x67 j hlt1, fun H8 => ∃ w8 s8 acc8 avs8, IE G w8 (wipeE e vs) s8 (wipe σ vs) H8 ∧ IE G w8 (wipeE (stripE e4) vs1) s8 (wipe σ4 vs1) H8 ∧ FExt w6 H6 w8 H8 ∧ FExt w1 H1 w8 H8 ∧ w8.ow = (w1.plus D).ow ∧ (∀ a, w1.ow a → H8 a = H1 a) ∧ H8 D = some (.lst avs8) ∧ RpL G.K w8.as (Fz w8 H8) acc8 avs8 ∧
          (lcL F2 C2 Fe (wipeE (stripE e4) vs1) (es.drop (j + 1)) s8).holds (fun ys s9 => (lc2L F C Fj F2 C2 Fe vs1 (wipeE e vs) (ds.drop (i + 1)) s9).holds (fun zs sa => (acc8 ++ (ys ++ zs)).length ≤ sizeLine ∧ kE G w1 e σ H1 Q (.list (acc8 ++ (ys ++ zs))) sa) (fun _ _ => False)) (fun _ _ => False), fun H8 k => ⟨es.length - (j + 1), by omega, rfl, hlt1, k⟩, fun v8 H8 y8 => ?_⟩
        obtain ⟨J8, x8, d8, hd8, rd8⟩ := W1.yld w7 _ s7 _ H7 H8 j v8 Ji x67 hlt1 y8
        have ed8 : es.drop j = d8 :: es.drop (j + 1) := by
          rw [List.drop_eq_getElem_cons hlt1]
          rw [List.getElem?_eq_getElem hlt1] at hd8
          cases hd8
          rfl
        rw [ed8] at q7
        unfold lcL at q7
        have on7 : ∀ {w9 : Wd} {H9 : Hp}, EExt w7 H7 w9 H9 → FExt w6 H6 w9 H9 ∧ FExt w1 H1 w9 H9 ∧ w9.ow = (w1.plus D).ow ∧ (∀ a, w1.ow a → H9 a = H1 a) ∧ H9 D = some (.lst avs7) ∧ RpL G.K w9.as (Fz w9 H9) acc7 avs7 := fun {w9 H9} x =>
          ⟨x67.trans x.f, x17.trans x.f, x.ow.trans o7, fun a ha => (x.own a (by rw [o7]; exact .inl ha)).trans (k7 a ha), (x.own D owD7).trans hD7, x.rpl r7⟩
        refine ⟨w7, wipeE (stripE e4) vs1, s7, d8, J8, rd8, holds_imp (holds_noex (holds_bind q7) _) fun e9 s9 h9 w9 σ9 H9 I9 x9 a9 l9 => ?_⟩
        have hw9 : wipe σ9 vs1 = wipe σ4 vs1 := wipe_back his1 a9 l9
        refine ⟨hw9, w9, e9, s9, I9, holds_imp (holds_noex (holds_bind h9) _) fun b sa ha wa Ha Ia xa => ?_⟩
        have x7a := x8.trans (x9.trans xa)
        cases b with
        | false =>
          simp only [Bool.false_eq_true, if_false] at ha
          obtain ⟨t1, t2, t3, t4, t5, t6⟩ := on7 x7a
          exact iteF ⟨wa, sa, acc7, avs7, Jo.re x7a Ia, Ji.re x7a Ia, t1, t2, t3, t4, t5, t6, ha⟩
        | true =>
          simp only [if_true] at ha
          refine iteT ⟨wa, e9, sa, Ia, holds_imp (holds_noex (holds_bind ha) _) fun yy sb hb wb yv Hb Ib xb rb => ?_⟩
          have x7b := x7a.trans xb
          obtain ⟨t1, t2, t3, t4, t5, t6⟩ := on7 x7b
          have owb : wb.ow D := by rw [t3]; exact .inr rfl
          have hb' := holds_bind hb
          have lenb : acc7.length < sizeLine := by
            obtain ⟨ys, sc, _, hc⟩ := holds_ok hb'
            obtain ⟨zs, sd, _, hd2⟩ := holds_ok (show (lc2L F C Fj F2 C2 Fe vs1 (wipeE e vs) (ds.drop (i + 1)) sc).holds _ _ from hc)
            have := hd2.1
            simp at this
            omega
          refine ⟨avs7, t5, by rw [r7.length]; exact lenb, ?_⟩
          refine ⟨wb, sb, acc7 ++ [yy], avs7 ++ [yv], (Jo.re x7b Ib).write owb d0 lone, (Ji.re x7b Ib).write owb d0 lone1, t1.trans (write_f owb), t2.trans (write_f owb), t3, fun a ha' => ?_, upd_same, ?_, ?_⟩
          · rw [upd_ne fun (z : a = D) => dn (by rw [← z]; exact ha')]
            exact t4 a ha'
          · rw [Fz_own owb]
            exact t6.append (RpL.one rb)
          · refine holds_imp hb' fun ys sc hc => holds_imp hc fun zs sd hd2 => ?_
            have hd3 : (acc7 ++ (yy :: ys ++ zs)).length ≤ sizeLine ∧ kE G w1 e σ H1 Q (.list (acc7 ++ (yy :: ys ++ zs))) sd := hd2
            rw [List.append_assoc]
            exact hd3
      · have e0 : es.drop j = [] := List.drop_eq_nil_of_le (by omega)
        rw [e0] at q7
        refine .inl ⟨W1.stop w7 H7 x67 j (by omega), w7, s7, acc7, avs7, Jo, x17, o7, k7, hD7, r7, ?_⟩
        have q8 : (lc2L F C Fj F2 C2 Fe vs1 (wipeE e vs) (ds.drop (i + 1)) s7).holds (fun zs s9 => (acc7 ++ ([] ++ zs)).length ≤ sizeLine ∧ kE G w1 e σ H1 Q (.list (acc7 ++ ([] ++ zs))) s9) (fun _ _ => False) := q7
        exact q8
  · have e0 : ds.drop i = [] := List.drop_eq_nil_of_le (by omega)
    rw [e0] at q
    refine .inl ⟨W.stop w2 H2 x2 i (by omega), ?_⟩
    have q' : kE G w1 e σ H1 Q (.list (acc ++ [])) s2 := q.2
    rw [List.append_nil] at q'
    have sm2 : Same (Fz w2 H2) (Fz ⟨w2.as, w1.ow⟩ H2) := fun a o h => by
      obtain ⟨z1, z2, z3⟩ := Fz_get h
      exact Fz_of z1 z2 fun z => z3 (by rw [o2]; exact .inl z)
    have ex : EExt w1 H1 ⟨w2.as, w1.ow⟩ H2 := ⟨x2.beg, x2.same.trans sm2, rfl, k2⟩
    have J : IE G ⟨w2.as, w1.ow⟩ (wipeE e vs) s2 (wipe σ vs) H2 := by
      refine ⟨J2.len, fun j d h => ?_, fun j es h => ?_, J2.inj, J2.slen, fun n es h => ?_, J2.nd, fun a ha z => J2.dis a ha (by rw [o2]; exact .inl z), J2.beg, fun a ha => ?_, fun a ha => J2.there a (by rw [o2]; exact .inl ha), J2.keep, J2.cfresh⟩
      · obtain ⟨v, z1, z2⟩ := J2.slot j d h
        exact ⟨v, z1, Rp.mono (.refl _) sm2 _ _ z2⟩
      · obtain ⟨p, us, z1, z2, z3, z4, z5, z6⟩ := J2.own j es h
        refine ⟨p, us, z1, ?_, z3, z4, z5, CR.mono (.refl _) sm2 z6⟩
        rw [o2] at z2
        rcases z2 with z2 | z2
        · exact z2
        · subst z2; exact absurd z1 (lone j es h)
      · obtain ⟨a, us, z1, z2, z3⟩ := J2.cells n es h
        exact ⟨a, us, z1, z2, CR.mono (.refl _) sm2 z3⟩
      · exact I1.o0 a ha
    refine q' ⟨w2.as, w1.ow⟩ (.ref D) H2 (I1.re ex J) ex ?_
    simp only [Rp]
    exact ⟨D, avs, rfl, Fz_of hD2 (fun z => J2.dis D z owD) dn, RpL.mono (.refl _) sm2 _ _ ra⟩
theorem de_lc2 {elt tg iter tg1 iter1 : Expr} {ifs ifs1 : List Expr} {scope : Scope} {own : List (Str × Nat)} {vs1 : List Nat} {pos : Pos} {Fi : FA} {F : FG} {C : FT} {Fj : FA} {F2 : FG} {C2 : FT} {Fe : FE} {is is1 : List Nat} (hc : X.calm = true) (hN : X.N.Nodup) (ok : BlkOk X.N X.env.scope scope own) (hi : PI X tg iter (tI G Fi))
    (hg : ∀ (s : Shared) (H : Hp) (A : Addr) (cl : List (Str × Addr)) (fp : List Addr), PG (X.blk s H scope (compEnvC scope cl A X.env) fp) tg (tG G is F)) (ht : ∀ (s : Shared) (H : Hp) (A : Addr) (cl : List (Str × Addr)) (fp : List Addr), PTs (X.blk s H scope (compEnvC scope cl A X.env) fp) ifs (tT G C))
    (hi1 : ∀ (s : Shared) (H : Hp) (A : Addr) (cl : List (Str × Addr)) (fp : List Addr), PI (X.blk s H scope (compEnvC scope cl A X.env) fp) tg1 iter1 (tI G Fj)) (hg1 : ∀ (s : Shared) (H : Hp) (A : Addr) (cl : List (Str × Addr)) (fp : List Addr), PG (X.blk s H scope (compEnvC scope cl A X.env) fp) tg1 (tG G is1 F2))
    (ht1 : ∀ (s : Shared) (H : Hp) (A : Addr) (cl : List (Str × Addr)) (fp : List Addr), PTs (X.blk s H scope (compEnvC scope cl A X.env) fp) ifs1 (tT G C2)) (he : ∀ (s : Shared) (H : Hp) (A : Addr) (cl : List (Str × Addr)) (fp : List Addr), PE (X.blk s H scope (compEnvC scope cl A X.env) fp) elt (tE G Fe))
    (hv : ∀ i ∈ vs1, i ∈ own.map (·.2) := by decide) (his : ∀ i ∈ is, i ∈ own.map (·.2) := by decide) (his1 : ∀ i ∈ is1, i ∈ vs1 := by decide) (hs : ∀ x, foldedSetIterable iter X.env x = pure x := by intro _; rfl) (hs1 : ∀ env x, foldedSetIterable iter1 env x = pure x := by intro _ _; rfl) :
    PE X (.ListComp elt [⟨tg, iter, ifs, 0⟩, ⟨tg1, iter1, ifs1, 0⟩] scope pos) (tE G (fLc2 Fi F C Fj F2 C2 Fe (own.map (·.2)) vs1)) := PE_imp (pe_lc2 hc hN hi ok hv hg ht hi1 hg1 ht1 he hs hs1) fun _ _ _ h => lc2_of his his1 h
theorem ds_setLc2 (i0 : Nat) {y : Str} {py spos : Pos} {elt tg iter tg1 iter1 : Expr} {ifs ifs1 : List Expr} {scope : Scope} {own : List (Str × Nat)} {vs1 : List Nat} {pos : Pos} {Fi : FA} {F : FG} {C : FT} {Fj : FA} {F2 : FG} {C2 : FT} {Fe : FE} {is is1 : List Nat} (hc : X.calm = true) (hN : X.N.Nodup) (ok : BlkOk X.N X.env.scope scope own) (hsw : swapsWith (.ListComp elt [⟨tg, iter, ifs, 0⟩, ⟨tg1, iter1, ifs1, 0⟩] scope pos) (some (.Name y py)) spos.line X.env = pure true) (hi : PI X tg iter (tI G Fi))
    (hg : ∀ (s : Shared) (H : Hp) (A : Addr) (cl : List (Str × Addr)) (fp : List Addr), PG (X.blk s H scope (compEnvC scope cl A X.env) fp) tg (tG G is F)) (ht : ∀ (s : Shared) (H : Hp) (A : Addr) (cl : List (Str × Addr)) (fp : List Addr), PTs (X.blk s H scope (compEnvC scope cl A X.env) fp) ifs (tT G C))
    (hi1 : ∀ (s : Shared) (H : Hp) (A : Addr) (cl : List (Str × Addr)) (fp : List Addr), PI (X.blk s H scope (compEnvC scope cl A X.env) fp) tg1 iter1 (tI G Fj)) (hg1 : ∀ (s : Shared) (H : Hp) (A : Addr) (cl : List (Str × Addr)) (fp : List Addr), PG (X.blk s H scope (compEnvC scope cl A X.env) fp) tg1 (tG G is1 F2))
    (ht1 : ∀ (s : Shared) (H : Hp) (A : Addr) (cl : List (Str × Addr)) (fp : List Addr), PTs (X.blk s H scope (compEnvC scope cl A X.env) fp) ifs1 (tT G C2)) (he : ∀ (s : Shared) (H : Hp) (A : Addr) (cl : List (Str × Addr)) (fp : List Addr), PE (X.blk s H scope (compEnvC scope cl A X.env) fp) elt (tE G Fe))
    (hy : X.N[i0]? = some y := by rfl) (hyl : X.env.scope.names.lookup y = some .local := by rfl) (hv : ∀ i ∈ vs1, i ∈ own.map (·.2) := by decide) (his : ∀ i ∈ is, i ∈ own.map (·.2) := by decide) (his1 : ∀ i ∈ is1, i ∈ vs1 := by decide) (hs : ∀ x, foldedSetIterable iter X.env x = pure x := by intro _; rfl) (hs1 : ∀ env x, foldedSetIterable iter1 env x = pure x := by intro _ _; rfl) :
    PS X (.Assign [.Name y py] (.ListComp elt [⟨tg, iter, ifs, 0⟩, ⟨tg1, iter1, ifs1, 0⟩] scope pos) spos) (tS G (sSet i0 (fLc2 Fi F C Fj F2 C2 Fe (own.map (·.2)) vs1))) :=
  PS_imp (ps_setLc2 hc hN hy hyl hsw hi ok hv hg ht hi1 hg1 ht1 he hs hs1) fun D σ H h => by
    obtain ⟨w, e, s, I, h'⟩ := tAsg_of (is := [i0]) h
    exact lc2_of his his1 ⟨w, e, s, I, holds_imp h' fun d s1 k w1 v H1 I1 x1 r1 => gName_of (k w1 v H1 I1 x1 r1) (by simp)⟩
end
end DL

namespace DL
open PySem PySem.Spec PyProof.Rows L2
section
variable {X : Cx} {G : Gx}
/-! ### cells made within an expression -/
section
variable {w : Wd} {e : Lcs} {s : Sto} {σ : L2.St} {H : Hp}
theorem IE.cellE (I : IE G w e s σ H) {p : Addr} {ho : HO} (hp : H p = none) : EExt w H ⟨w.as ++ [p], w.ow⟩ (upd H p ho) :=
  ⟨⟨[p], rfl⟩, by rw [Fz_cell hp]; exact .refl _, rfl, fun a ha => upd_ne fun z => I.there a ha (by rw [z]; exact hp)⟩
theorem cel_rp (I : IE G w e s σ H) {p : Addr} {F : Hp} : Rp G.K (w.as ++ [p]) F (cel s.length) (.ref p) := by
  unfold cel
  simp only [Rp]
  exact ⟨p, rfl, by rw [← I.slen]; simp⟩
theorem IE.cellD (I : IE G w e s σ H) {n : Nat} {kvs : List (Key × Dat)} (h : s[n]? = some (.dk kvs)) : ∃ a vs, w.as[n]? = some a ∧ H a = some (.dK (zipK kvs vs)) ∧ RpL G.K w.as (Fz w H) (kvs.map Prod.snd) vs := by
  obtain ⟨a, ho, h1, h2, vs, rfl, h3⟩ := I.cells n _ h
  exact ⟨a, vs, h1, h2, h3⟩
end
@[simp] def fCellL (Fs : FA) : FE := fun e s => (Fs e s).bind fun ds s1 => if cLen ds then .ok (cel s1.length) (s1 ++ [.ls ds]) else .bad
theorem de_cellL {es : List Expr} {pos : Pos} {Fs : FA} (h : PA X es (tA G Fs)) : PE X (.List es pos) (tE G (fCellL Fs)) := PE_imp (pe_lst h) fun σ H Q ⟨w, e, s, I, h⟩ => by
  refine ⟨w, e, s, I, holds_imp (holds_bind h) fun ds s1 h1 w1 xs H1 I1 x1 r1 => ?_⟩
  split at h1
  · rename_i c
    refine ⟨by rw [r1.length]; exact of_decide_eq_true c, fun p hp => ?_⟩
    exact h1 _ _ _ (I1.newCell hp (cr_ls r1)) (x1.trans (I1.cellE hp)) (cel_rp I1)
  · exact h1.elim
@[simp] def fCellD : FE := fun _ s => .ok (cel s.length) (s ++ [.dk []])
theorem de_cellD {pos : Pos} : PE X (.Dict [] [] pos) (tE G fCellD) := PE_imp pe_dnewK fun σ H Q ⟨w, e, s, I, h⟩ => by
  intro p hp
  exact h _ _ _ (I.newCell (ds := .dk []) hp ⟨[], rfl, RpL.nil⟩) (I.cellE hp) (cel_rp I)

/-! ### subscripts, dicts too -/
def rIxD : R2 := fun x y H Q => ∃ a v, x = .ref a ∧ DGet H a y (some v) ∧ Q v H
theorem ix_dict (hu : X.A.units + 1 < cLine) : IxR X rIxD := by
  intro value slice pins s σ H x y v u Q I rx ry h hs
  obtain ⟨a, z, rfl, g, q⟩ := h
  cases (show v = Value.ref a from rx)
  have ht := dict_typeIs I g
  unfold subscriptTail
  refine wpAny_bind ?_
  rw [getitemInPython_of_ne ht.not_modules]
  refine wpAny_bind (wpAny_specialOf ht PySem.F.slot_dict_getitem.lookup ?_)
  have go : wpAny (model X.prog X.w) X.A (subscripted slice false (.ref a) u) (fun r s3 => wpAny (model X.prog X.w) X.A (letTemporaryGo value (.ref a) r >>= fun _ => pure r) (EP X pins σ Q) X.xe s3) X.xe s := by
    rw [hs]
    exact wpAny_operating (d_getItem hu I g ry fun w' s3 I3 rw' => wpAny_bind (wpAny_letTemporaryGo (wpAny_pure ⟨z, H, I3, rw', q⟩)))
  first
    | exact wpAny_pure (wpAny_bind go)
    | exact wpAny_bind (wpAny_pure (wpAny_bind go))
    | exact wpAny_bind go
@[simp] def gIx2 : Dat → Dat → Sto → Res Dat := fun a b s => match a with
  | .dict [(.int n, .none)] => match s[n.toNat]? with
    | some (.dk kvs) => match keyOf b with
      | some z => match getK kvs z with
        | some d => .ok d s
        | none => .bad
      | none => .bad
    | _ => gIx a b s
  | _ => gIx a b s
theorem opIx2 : OpD G (fun x y H Q => L2.rIx G.K x y H Q ∨ rIxD x y H Q) gIx2 := by
  intro w e s σ H x y a b Q I ra rb h
  unfold gIx2 at h
  split at h
  · rename_i n
    split at h
    · rename_i kvs hs
      split at h
      · rename_i z hz
        split at h
        · rename_i d hg
          have ra' : ∃ a, x = .ref a ∧ w.as[n.toNat]? = some a := by simpa [Rp] using ra
          obtain ⟨p, rfl, hp⟩ := ra'
          obtain ⟨a', vs, e1, e2, e3⟩ := I.cellD hs
          rw [hp] at e1; cases e1
          rcases get_rp z e3 with ⟨t1, t2⟩ | ⟨d2, v, t1, t2, r2⟩
          · rw [t1] at hg; cases hg
          · rw [t1] at hg; cases hg
            exact .inr ⟨p, v, rfl, .inl ⟨_, z, .inl e2, key_rp rb hz, t2.symm⟩, flat_ok I h r2⟩
        · exact h.elim
      · exact h.elim
    · exact .inl (opIx w e s σ H x y _ b Q I ra rb h)
  · exact .inl (opIx w e s σ H x y _ b Q I ra rb h)
theorem de_ix2 {a b : Expr} {pos : Pos} {Fa Fb : FE} (hu : X.A.units + 1 < cLine) (hK : X.K = G.K) (ha : PE X a (tE G Fa)) (hb : PE X b (tE G Fb)) (hs : PlainIx b := by exact fun _ _ => rfl) : PE X (.Subscript a b pos) (tE G (fBin gIx2 Fa Fb)) :=
  PE_imp (pe_ix (ix_seq.or (ix_dict hu)) ha hb hs) fun _ _ _ h => tOp_of (by rw [hK]; exact opIx2) h

/-! ### in, dicts too -/
def rInDk : R2 := fun x y H Q => ∃ a o, y = .ref a ∧ DGet H a x o ∧ Q (.bl o.isSome) H
def rNotInDk : R2 := fun x y H Q => ∃ a o, y = .ref a ∧ DGet H a x o ∧ Q (.bl (!o.isSome)) H
theorem op_inDk (hu : X.A.units + 1 < cLine) : OpR X (compareOp .In) rInDk := fun pins s σ H x y v u Q I rx ry ⟨a, o, ey, g, q⟩ => by
  subst ey
  cases (show u = Value.ref a from ry)
  exact d_in hu I g rx fun s3 I3 => ⟨.bl o.isSome, H, I3, rfl, q⟩
theorem op_notInDk (hu : X.A.units + 1 < cLine) : OpR X (compareOp .NotIn) rNotInDk := fun pins s σ H x y v u Q I rx ry ⟨a, o, ey, g, q⟩ => by
  subst ey
  cases (show u = Value.ref a from ry)
  exact d_notIn hu I g rx fun s3 I3 => ⟨.bl (!o.isSome), H, I3, rfl, q⟩
/-- is a key in the dict that is a cell? -/
def hasC (a b : Dat) (s : Sto) : Option Bool := match b with
  | .dict [(.int n, .none)] => match s[n.toNat]? with
    | some (.dk kvs) => (keyOf a).map fun z => (getK kvs z).isSome
    | _ => none
  | _ => none
@[simp] def gIn2 : Dat → Dat → Sto → Res Dat := fun a b s => match hasC a b s with
  | some k => .ok (.bool k) s
  | none => gIn a b s
@[simp] def gNotIn2 : Dat → Dat → Sto → Res Dat := fun a b s => match hasC a b s with
  | some k => .ok (.bool (!k)) s
  | none => gNotIn a b s
theorem hasC_rp {w : Wd} {e : Lcs} {s : Sto} {σ : L2.St} {H : Hp} {a b : Dat} {x y : V} {k : Bool} (I : IE G w e s σ H) (ra : Rp G.K w.as (Fz w H) a x) (rb : Rp G.K w.as (Fz w H) b y) (h : hasC a b s = some k) : ∃ p o, y = .ref p ∧ DGet H p x o ∧ o.isSome = k := by
  unfold hasC at h
  split at h
  · rename_i n
    split at h
    · rename_i kvs hs
      rw [Option.map_eq_some_iff] at h
      obtain ⟨z, hz, rfl⟩ := h
      have rb' : ∃ a, y = .ref a ∧ w.as[n.toNat]? = some a := by simpa [Rp] using rb
      obtain ⟨p, rfl, hp⟩ := rb'
      obtain ⟨a', vs, e1, e2, e3⟩ := I.cellD hs
      rw [hp] at e1; cases e1
      refine ⟨p, _, rfl, .inl ⟨_, z, .inl e2, key_rp ra hz, rfl⟩, ?_⟩
      rcases get_rp z e3 with ⟨t1, t2⟩ | ⟨d2, v, t1, t2, r2⟩
      · rw [t1, t2]; rfl
      · rw [t1, t2]; rfl
    · cases h
  · cases h
theorem opIn2 : OpD G (fun x y H Q => rIn3 G.K x y H Q ∨ rInDk x y H Q) gIn2 := by
  intro w e s σ H x y a b Q I ra rb h
  unfold gIn2 at h
  split at h
  · rename_i k hk
    obtain ⟨p, o, e1, g, e2⟩ := hasC_rp I ra rb hk
    exact .inr ⟨p, o, e1, g, by rw [e2]; exact flat_ok I h rp_b⟩
  · exact .inl (opIn w e s σ H x y a b Q I ra rb h)
theorem opNotIn2 : OpD G (fun x y H Q => rNotIn3 G.K x y H Q ∨ rNotInDk x y H Q) gNotIn2 := by
  intro w e s σ H x y a b Q I ra rb h
  unfold gNotIn2 at h
  split at h
  · rename_i k hk
    obtain ⟨p, o, e1, g, e2⟩ := hasC_rp I ra rb hk
    exact .inr ⟨p, o, e1, g, by rw [e2]; exact flat_ok I h rp_b⟩
  · exact .inl (opNotIn w e s σ H x y a b Q I ra rb h)
theorem room1 {k : Nat} {A : Around} (hr : Room k A) : A.units + 1 < cLine := by have := hr.un; omega
theorem op_in4 {k : Nat} (hr : Room k X.A) (hK : X.K = G.K) : OpR X (compareOp .In) (fun x y H Q => rIn3 G.K x y H Q ∨ rInDk x y H Q) := OpR.or (by rw [← hK]; exact (op_inD (room65 hr)).or ((op_inT (room65 hr)).or op_in_str)) (op_inDk (room1 hr))
theorem op_notIn4 {k : Nat} (hr : Room k X.A) (hK : X.K = G.K) : OpR X (compareOp .NotIn) (fun x y H Q => rNotIn3 G.K x y H Q ∨ rNotInDk x y H Q) := OpR.or (by rw [← hK]; exact (op_notInD (room65 hr)).or ((op_notInT (room65 hr)).or op_notIn_str)) (op_notInDk (room1 hr))
section
variable {a b : Expr} {pos : Pos} {Fa Fb : FE} {k : Nat}
theorem de_in2 (hr : Room k X.A) (hK : X.K = G.K) (ha : PE X a (tE G Fa)) (hb : PE X b (tE G Fb)) (hm : behindInMarks .In b = false := by with_unfolding_all rfl) : PE X (.Compare a [.In] [b] pos) (tE G (fBin gIn2 Fa Fb)) := de_cmp (op_in4 hr hK) opIn2 ha hb hm
theorem de_notIn2 (hr : Room k X.A) (hK : X.K = G.K) (ha : PE X a (tE G Fa)) (hb : PE X b (tE G Fb)) (hm : behindInMarks .NotIn b = false := by with_unfolding_all rfl) : PE X (.Compare a [.NotIn] [b] pos) (tE G (fBin gNotIn2 Fa Fb)) := de_cmp (op_notIn4 hr hK) opNotIn2 ha hb hm
theorem dt_in2 (hr : Room k X.A) (hK : X.K = G.K) (ha : PE X a (tE G Fa)) (hb : PE X b (tE G Fb)) (hm : behindInMarks .In b = false := by with_unfolding_all rfl) : PT X (.Compare a [.In] [b] pos) (tT G (fB (fBin gIn2 Fa Fb))) := dt_cmp (op_in4 hr hK) opIn2 ha hb hm
theorem dt_notIn2 (hr : Room k X.A) (hK : X.K = G.K) (ha : PE X a (tE G Fa)) (hb : PE X b (tE G Fb)) (hm : behindInMarks .NotIn b = false := by with_unfolding_all rfl) : PT X (.Compare a [.NotIn] [b] pos) (tT G (fB (fBin gNotIn2 Fa Fb))) := dt_cmp (op_notIn4 hr hK) opNotIn2 ha hb hm
end

/-! ### len, tuple of cells -/
@[simp] def gLen2 : List Dat → Sto → Res Dat := fun ds s => match ds with
  | [.dict [(.int n, .none)]] => match s[n.toNat]? with
    | some (.dk kvs) => .ok (.int kvs.length) s
    | some (.ls xs) => .ok (.int xs.length) s
    | _ => .bad
  | _ => gLen ds s
def rLen2 (K : PySem.W.Frag) : List V → Hp → VK → Prop := fun xs H Q => (∃ x n, xs = [x] ∧ LenV K x H n ∧ Q (.int n) H) ∨ ∃ a kvs, xs = [V.ref a] ∧ H a = some (.dK kvs) ∧ Q (.int kvs.length) H
theorem cdLen2 : CallD G (rLen2 G.K) gLen2 := by
  intro w e s σ H xs ds Q I r h
  unfold gLen2 at h
  split at h
  · rename_i n
    obtain ⟨v, rfl, r1⟩ := rpl1 r
    have r1' : ∃ a, v = .ref a ∧ w.as[n.toNat]? = some a := by simpa [Rp] using r1
    obtain ⟨p, rfl, hp⟩ := r1'
    split at h
    · rename_i kvs hs
      obtain ⟨a', vs, e1, e2, e3⟩ := I.cellD hs
      rw [hp] at e1; cases e1
      refine .inr ⟨p, _, rfl, e2, ?_⟩
      have hl : (zipK kvs vs).length = kvs.length := by
        have := e3.length
        rw [List.length_map] at this
        simp [zipK, this]
      rw [hl]
      exact flat_ok I h rp_i
    · rename_i ys hs
      obtain ⟨a', vs, e1, e2, e3⟩ := I.cellL hs
      rw [hp] at e1; cases e1
      refine .inl ⟨.ref p, _, rfl, .inl ⟨vs, .inl (.inl e2), rfl⟩, ?_⟩
      rw [e3.length]
      exact flat_ok I h rp_i
    · exact h.elim
  · exact .inl (cdLen w e s σ H xs ds Q I r h)
theorem de_len2 {p pos : Pos} {a : Expr} {es : List Expr} {Fs : FA} (hK : X.K = G.K) (hm : X.mg "len" = none) (ha : PA X (a :: es) (tA G Fs)) (hgl : Gl X "len" := by rfl) (he : starEach (a :: es) X.env = (false, eval a X.env) :: starEach es X.env := by rfl) (hpl : (backTo pos (starEach es X.env)).any (·.1) = false := by rfl) :
    PE X (.Call (.Name "len" p) (a :: es) [] pos) (tE G (fCall gLen2 Fs)) := de_callB (CallR.or call_len call_lenD) (by rw [hK]; exact cdLen2) hm ha (hgl := hgl) (he := he) (hpl := hpl)
@[simp] def gTupOf2 : List Dat → Sto → Res Dat := fun ds s => match ds with
  | [.dict [(.int n, .none)]] => match s[n.toNat]? with
    | some (.ls xs) => .ok (.tuple xs) s
    | _ => .bad
  | _ => gTupOf ds s
theorem cdTup2 : CallD G (fun xs H Q => ∃ p ys, xs = [V.ref p] ∧ ((SqL G.K H p ys ∧ ∀ l, H l = none → Q (.ref l) (upd H l (.tup ys))) ∨ (SqT G.K H p ys ∧ Q (.ref p) H))) gTupOf2 := by
  intro w e s σ H xs ds Q I r h
  unfold gTupOf2 at h
  split at h
  · rename_i n
    obtain ⟨v, rfl, r1⟩ := rpl1 r
    have r1' : ∃ a, v = .ref a ∧ w.as[n.toNat]? = some a := by simpa [Rp] using r1
    obtain ⟨p, rfl, hp⟩ := r1'
    split at h
    · rename_i ys hs
      obtain ⟨a', vs, e1, e2, e3⟩ := I.cellL hs
      rw [hp] at e1; cases e1
      exact ⟨p, vs, rfl, .inl ⟨.inl (.inl e2), fun l hl => new_tuple I e3 h hl⟩⟩
    · exact h.elim
  · exact cdTup w e s σ H xs ds Q I r h
theorem de_tupOf2 {p pos : Pos} {a : Expr} {es : List Expr} {Fs : FA} (hK : X.K = G.K) (hm : X.mg "tuple" = none) (ha : PA X (a :: es) (tA G Fs)) (hgl : Gl X "tuple" := by rfl) (he : starEach (a :: es) X.env = (false, eval a X.env) :: starEach es X.env := by rfl) (hpl : (backTo pos (starEach es X.env)).any (·.1) = false := by rfl) :
    PE X (.Call (.Name "tuple" p) (a :: es) [] pos) (tE G (fCall gTupOf2 Fs)) := de_callTy call_tuple_of (by rw [hK]; exact cdTup2) hm ha (hgl := hgl) (he := he) (hpl := hpl)

/-! ### o[k] = v, o a cell: a list or a dict -/
def rSetD (hz : Nat) : V → V → V → Hp → (Hp → Prop) → Prop := fun o i v H Q => ∃ a H', o = .ref a ∧ DPut H a i v H' ∧ Q H'
theorem set_dict (hu : X.A.units + 1 < cLine) : PSet X (rSetD 0) := by
  intro pins s σ H o i v ov iv u Q I ro ri rv h
  obtain ⟨a, H', rfl, g, q⟩ := h
  cases (show ov = Value.ref a from ro)
  exact d_setItem hu I g ri rv fun s' I' => ⟨H', I', q⟩
theorem set_any (hu : X.A.units + 1 < cLine) : PSet X (fun o i v H Q => rSetL o i v H Q ∨ rSetD 0 o i v H Q) := by
  intro pins s σ H o i v ov iv u Q I ro ri rv h
  rcases h with h | h
  · exact set_list pins s σ H o i v ov iv u Q I ro ri rv h
  · exact set_dict hu pins s σ H o i v ov iv u Q I ro ri rv h
@[simp] def sItem2 (Fo Fi Fv : FE) : FS := fun e s => (Fv e s).flo e fun d s1 => (Fo e s1).flo e fun o s2 => (Fi e s2).flo e fun k s3 => match o with
  | .dict [(.int n, .none)] => match s3[n.toNat]? with
    | some (.ls ds) => match k with
      | .int j => match ixN ds.length j with
        | some m => .nx e (s3.set n.toNat (.ls (ds.set m d)))
        | none => .bad
      | _ => .bad
    | some (.dk kvs) => match keyOf k with
      | some z => if kvs.length < sizeLine then .nx e (s3.set n.toNat (.dk (putD kvs z d))) else .bad
      | none => .bad
    | _ => .bad
  | _ => .bad
theorem ds_item2 {o i v : Expr} {pos p2 : Pos} {Fo Fi Fv : FE} (hu : X.A.units + 1 < cLine) (hv : PE X v (tE G Fv)) (ho : PE X o (tE G Fo)) (hi : PE X i (tE G Fi)) (ha : ∀ u, assign (.Subscript o i p2) X.env u = (do
      let ov ← holding [u] (eval o X.env)
      let iv ← holding [u, ov] (eval i X.env)
      standAt p2
      holding [u, ov, iv] (setItem ov iv u)
      release [u, ov, iv] []) := by intro _; rfl) (hs : swapsWithSole [.Subscript o i p2] v pos.line X.env = pure false := by rfl) (hw : swappedStores [.Subscript o i p2] v X.env = pure none := by rfl)
    (h1 : (assignEach [.Subscript o i p2] X.env).map (·.2) = [assign (.Subscript o i p2) X.env] := by rfl) : PS X (.Assign [.Subscript o i p2] v pos) (tS G (sItem2 Fo Fi Fv)) :=
  PS_imp (ps_asg hv (pg_sub ho hi (set_any hu) ha) hs hw h1) fun D σ H ⟨w, e, s, I, h⟩ => by
    refine ⟨w, e, s, I, holds_imp (flo_holds h) fun d s1 h1 w1 dv H1 I1 x1 r1 => ?_⟩
    refine ⟨w1, e, s1, I1, holds_imp (flo_holds h1) fun ov s2 h2 w2 ovv H2 I2 x2 r2 => ?_⟩
    refine ⟨w2, e, s2, I2, holds_imp (flo_holds h2) fun k s3 h3 w3 kv H3 I3 x3 r3 => ?_⟩
    split at h3
    · rename_i n
      have r2' : ∃ a, ovv = .ref a ∧ w2.as[n.toNat]? = some a := by simpa [Rp] using r2
      obtain ⟨p, rfl, hp⟩ := r2'
      have hp3 := x3.beg.get hp
      have rd := (x2.trans x3).rp r1
      have ext : ∀ {ho : HO}, FExt w H w3 (upd H3 p ho) := (x1.trans (x2.trans x3)).f.trans ⟨.refl _, by rw [Fz_mem (List.mem_of_getElem? hp3)]; exact .refl _⟩
      split at h3
      · rename_i ds hds
        split at h3
        · rename_i j
          split at h3
          · rename_i m hm
            obtain ⟨a', vs, e1, e2, e3⟩ := I3.cellL hds
            rw [hp3] at e1; cases e1
            exact .inl ⟨p, vs, j, m, rfl, rp_int r3, e2, by rw [e3.length]; exact hm, h3 w3 σ _ (I3.writeCell hp3 (cr_ls (e3.set m rd))) ext⟩
          · exact h3.elim
        · exact h3.elim
      · rename_i kvs hds
        split at h3
        · rename_i z hz
          split at h3
          · rename_i cl
            obtain ⟨a', vs, e1, e2, e3⟩ := I3.cellD hds
            rw [hp3] at e1; cases e1
            obtain ⟨vs', t1, t2⟩ := put_rp (k := z) rd e3
            refine .inr ⟨p, _, rfl, .inl ⟨_, z, e2, key_rp r3 hz, ?_, rfl⟩, ?_⟩
            · have hl : vs.length = kvs.length := by rw [e3.length, List.length_map]
              simpa [zipK, hl] using cl
            · rw [t1]
              exact h3 w3 σ _ (I3.writeCell (ds := .dk (putD kvs z d)) hp3 ⟨vs', rfl, t2⟩) ext
          · exact h3.elim
        · exact h3.elim
      · exact h3.elim
    · exact h3.elim
/-! ### o.append(v), o a cell -/
@[simp] def sAppendC (Fo Fa : FE) : FS := fun e s => (Fo e s).flo e fun o s1 => match o with
  | .dict [(.int n, .none)] => match s1[n.toNat]? with
    | some (.ls _) => (Fa e s1).flo e fun d s2 => match s2[n.toNat]? with
      | some (.ls ds) => if ds.length < sizeLine then .nx e (s2.set n.toNat (.ls (ds ++ [d]))) else .bad
      | _ => .bad
    | _ => .bad
  | _ => .bad
theorem ds_appendC {o a : Expr} {apos cpos pos : Pos} {Fo Fa : FE} (ho : PE X o (tE G Fo)) (ha : PE X a (tE G Fa))
    (hsw : swapsWith (.Call (.Attribute o "append" apos) [a] [] cpos) none pos.line X.env = pure false := by rfl)
    (hbase : attributeBase o "append" X.env (eval o X.env) = eval o X.env := by rfl)
    (hfew : ((backTo cpos (starEach [a] X.env)).all (fun x => !x.1) && (backToKw cpos (keywordEach [] X.env)).all (fun x => x.1.isSome)
      && decide (([a] : List Expr).length + ([] : List Keyword).length + (if ([] : List Keyword).isEmpty then 0 else 1) < 30)) = true := by rfl)
    (hline : (apos.endLine == cpos.line) = true := by rfl) (hs1 : starEach [a] X.env = (false, eval a X.env) :: starEach [] X.env := by rfl) (hplain : (backTo cpos (starEach [] X.env)).any (·.1) = false := by rfl) :
    PS X (.Expr (.Call (.Attribute o "append" apos) [a] [] cpos) pos) (tS G (sAppendC Fo Fa)) :=
  PS_imp (ps_expr (pe_bm PySem.F.plainAttrs_list PySem.F.slot_list_append PySem.F.type_list_append mt_append ho (pa_cons ha pa_nil hs1) hbase hfew hline hs1 hplain) hsw) fun D σ H ⟨w, e, s, I, h⟩ => by
    refine ⟨w, e, s, I, holds_imp (flo_holds h) fun ov s1 h1 w1 ovv H1 I1 x1 r1 => ?_⟩
    split at h1
    · rename_i n
      have r1' : ∃ a, ovv = .ref a ∧ w1.as[n.toNat]? = some a := by simpa [Rp] using r1
      obtain ⟨p, rfl, hp⟩ := r1'
      split at h1
      · rename_i ds0 hds0
        obtain ⟨a', vs, e1, e2, e3⟩ := I1.cellL hds0
        rw [hp] at e1; cases e1
        refine ⟨Or.inl ⟨rfl, _, Or.inl (Or.inl e2)⟩, w1, e, s1, I1, holds_imp (flo_holds h1) fun d s2 h2 w2 v H2 I2 x2 r2 => ?_⟩
        split at h2
        · rename_i ds hds
          split at h2
          · rename_i c
            have hp2 := x2.beg.get hp
            obtain ⟨a', vs', t1, t2, t3⟩ := I2.cellL hds
            rw [hp2] at t1; cases t1
            refine ⟨p, vs', v, rfl, rfl, t2, by rw [t3.length]; exact c, ?_⟩
            exact h2 w2 σ _ (I2.writeCell hp2 (cr_ls (t3.append (RpL.one r2)))) ((x1.trans x2).f.trans ⟨.refl _, by rw [Fz_mem (List.mem_of_getElem? hp2)]; exact .refl _⟩)
          · exact h2.elim
        · exact h2.elim
      · exact h1.elim
    · exact h1.elim
end
end DL

namespace DL
open PySem PySem.Spec PyProof.Rows L2
/-! ### the fields of an instance, by place -/
theorem look_zip {f : Str} {v : V} : ∀ {fns : List Str} {vs : List V} {j : Nat}, fns.Nodup → fns[j]? = some f → vs[j]? = some v → (fns.zip vs).lookup f = some v
  | [], _, j, _, h, _ => by simp at h
  | g :: fns, [], j, _, _, h => by simp at h
  | g :: fns, y :: vs, 0, _, h1, h2 => by
    simp at h1 h2
    subst h1 h2
    simp [List.lookup]
  | g :: fns, y :: vs, j + 1, nd, h1, h2 => by
    simp only [List.getElem?_cons_succ] at h1 h2
    have hn : (f == g) = false := by
      rw [beq_eq_false_iff_ne]
      intro z
      subst z
      exact (List.nodup_cons.mp nd).1 (List.mem_of_getElem? h1)
    simp only [List.zip_cons_cons, List.lookup, hn]
    exact look_zip (List.nodup_cons.mp nd).2 h1 h2
theorem look_no {f : Str} : ∀ {fns : List Str} {vs : List V}, f ∉ fns → (fns.zip vs).lookup f = none
  | [], _, _ => by simp
  | g :: fns, [], _ => by simp
  | g :: fns, y :: vs, h => by
    have hn : (f == g) = false := by
      rw [beq_eq_false_iff_ne]
      intro z
      exact h (by rw [z]; simp)
    simp only [List.zip_cons_cons, List.lookup, hn]
    exact look_no fun z => h (List.mem_cons_of_mem _ z)
theorem put_zip {f : Str} {v : V} : ∀ {fns : List Str} {vs : List V} {j : Nat}, fns.Nodup → fns[j]? = some f → j < vs.length → putF f v (fns.zip vs) = fns.zip (vs.set j v)
  | [], _, j, _, h, _ => by simp at h
  | g :: fns, [], j, _, _, h => by simp at h
  | g :: fns, y :: vs, 0, _, h1, _ => by
    simp at h1
    subst h1
    simp [putF]
  | g :: fns, y :: vs, j + 1, nd, h1, h2 => by
    simp only [List.getElem?_cons_succ] at h1
    have hn : g ≠ f := by
      intro z
      subst z
      exact (List.nodup_cons.mp nd).1 (List.mem_of_getElem? h1)
    simp only [List.zip_cons_cons, putF, if_neg hn, List.set_cons_succ]
    rw [put_zip (List.nodup_cons.mp nd).2 h1 (by simpa using h2)]
theorem put_zip_end {f : Str} {v : V} : ∀ {fns : List Str} {vs : List V}, fns.Nodup → fns[vs.length]? = some f → putF f v (fns.zip vs) = fns.zip (vs ++ [v])
  | [], _, _, h => by simp at h
  | g :: fns, [], _, h1 => by
    simp at h1
    subst h1
    simp [putF]
  | g :: fns, y :: vs, nd, h1 => by
    simp only [List.length_cons, List.getElem?_cons_succ] at h1
    have hn : g ≠ f := by
      intro z
      subst z
      exact (List.nodup_cons.mp nd).1 (List.mem_of_getElem? h1)
    simp only [List.zip_cons_cons, putF, if_neg hn, List.cons_append]
    rw [put_zip_end (List.nodup_cons.mp nd).2 h1]
section
variable {X : Cx} {G : Gx}
/-- a class whose instances are cells: number id, at C, with these fields in the order in which they are first stored -/
structure ObK (K : PySem.W.Frag) (xc : Xc) (id : Nat) (C : Addr) (fns : List Str) : Prop where
  xc : xc.ob id = some (C, fns)
  nd : fns.Nodup
  cls : Cls K C
  no : ∀ f ∈ fns, NoAttr K C f
  few : fns.length < 1000
abbrev ObC (X : Cx) (G : Gx) (id : Nat) (C : Addr) (fns : List Str) : Prop := ObK X.K G.xc id C fns
theorem IE.cellO {w : Wd} {e : Lcs} {s : Sto} {σ : L2.St} {H : Hp} (I : IE G w e s σ H) {n id : Nat} {ds : List Dat} {C : Addr} {fns : List Str} (hx : G.xc.ob id = some (C, fns)) (h : s[n]? = some (.ob id ds)) :
    ∃ a dx vs, w.as[n]? = some a ∧ H a = some (.ins C dx (fns.zip vs)) ∧ ds.length ≤ fns.length ∧ RpL G.K w.as (Fz w H) ds vs := by
  obtain ⟨a, ho, h1, h2, C', fns', dx, vs, e1, rfl, h3, h4⟩ := I.cells n _ h
  rw [hx] at e1
  cases e1
  exact ⟨a, dx, vs, h1, h2, h3, h4⟩
/-- the instance that a datum refers to -/
def inst (id : Nat) (o : Dat) (s : Sto) : Option (Nat × List Dat) := match o with
  | .dict [(.int n, .none)] => match s[n.toNat]? with
    | some (.ob id' ds) => if id' = id then some (n.toNat, ds) else none
    | _ => none
  | _ => none
theorem inst_is {w : Wd} {e : Lcs} {s : Sto} {σ : L2.St} {H : Hp} (I : IE G w e s σ H) {id n : Nat} {o : Dat} {x : V} {ds : List Dat} {C : Addr} {fns : List Str} (O : ObC X G id C fns) (ro : Rp G.K w.as (Fz w H) o x) (h : inst id o s = some (n, ds)) :
    ∃ a dx vs, x = .ref a ∧ w.as[n]? = some a ∧ H a = some (.ins C dx (fns.zip vs)) ∧ ds.length ≤ fns.length ∧ RpL G.K w.as (Fz w H) ds vs := by
  unfold inst at h
  split at h
  · rename_i m
    split at h
    · rename_i id' es hs
      split at h
      · rename_i e1
        cases h
        subst e1
        have ro' : ∃ a, x = .ref a ∧ w.as[m.toNat]? = some a := by simpa [Rp] using ro
        obtain ⟨p, rfl, hp⟩ := ro'
        obtain ⟨a, dx, vs, k1, k2, k3, k4⟩ := I.cellO O.xc hs
        rw [hp] at k1; cases k1
        exact ⟨p, dx, vs, rfl, hp, k2, k3, k4⟩
      · cases h
    · cases h
  · cases h
theorem inst_cell {id n : Nat} {o : Dat} {s : Sto} {ds : List Dat} (h : inst id o s = some (n, ds)) : s[n]? = some (.ob id ds) := by
  unfold inst at h
  split at h
  · split at h
    · rename_i id' es hs
      split at h
      · rename_i e1
        cases h
        subst e1
        exact hs
      · cases h
    · cases h
  · cases h
/-! ### o.f -/
@[simp] def oFld (id j : Nat) (Fo : FE) : FE := fun e s => (Fo e s).bind fun o s1 => match inst id o s1 with
  | some (_, ds) => match ds[j]? with
    | some d => .ok d s1
    | none => .bad
  | none => .bad
theorem de_fld (id j : Nat) {o : Expr} {f : Str} {pos : Pos} {Fo : FE} {C : Addr} {fns : List Str} (hK : X.K = G.K) (O : ObC X G id C fns) (hj : fns[j]? = some f) (ho : PE X o (tE G Fo)) (hb : attributeBase o f X.env (eval o X.env) = eval o X.env := by rfl) : PE X (.Attribute o f pos) (tE G (oFld id j Fo)) :=
  PE_imp (pe_fld ho hb) fun σ H Q ⟨w, e, s, I, h⟩ => by
    refine ⟨w, e, s, I, holds_imp (holds_bind h) fun ov s1 h1 w1 x H1 I1 x1 r1 => ?_⟩
    split at h1
    · rename_i n ds hi
      split at h1
      · rename_i d hd
        obtain ⟨a, dx, vs, rfl, k1, k2, k3, k4⟩ := inst_is I1 O r1 hi
        obtain ⟨v, l1, l2⟩ := k4.get' hd
        exact ⟨a, C, dx, _, v, rfl, k2, O.cls, O.no f (List.mem_of_getElem? hj), look_zip O.nd hj l1, h1 w1 v H1 I1 x1 l2⟩
      · exact h1.elim
    · exact h1.elim
/-! ### o.f = v -/
/-- the fields behind a store at place j -/
def stored (j : Nat) (d : Dat) (ds : List Dat) : Option (List Dat) := if j < ds.length then some (ds.set j d) else if j = ds.length then some (ds ++ [d]) else none
theorem stored_is {K : PySem.W.Frag} {as : List Addr} {F : Hp} {j : Nat} {d : Dat} {v : V} {ds ds' : List Dat} {vs : List V} {f : Str} {fns : List Str} (nd : fns.Nodup) (hj : fns[j]? = some f) (h : stored j d ds = some ds') (rd : Rp K as F d v) (r : RpL K as F ds vs) (hl : ds.length ≤ fns.length) :
    ∃ vs', putF f v (fns.zip vs) = fns.zip vs' ∧ RpL K as F ds' vs' ∧ ds'.length ≤ fns.length := by
  have hv := r.length
  have hjl : j < fns.length := (List.getElem?_eq_some_iff.mp hj).1
  unfold stored at h
  split at h
  · rename_i c
    cases h
    exact ⟨vs.set j v, put_zip nd hj (by omega), r.set j rd, by rw [List.length_set]; exact hl⟩
  · split at h
    · rename_i c
      cases h
      refine ⟨vs ++ [v], put_zip_end nd (by rw [hv, ← c]; exact hj), r.append (RpL.one rd), ?_⟩
      rw [List.length_append]
      simp
      omega
    · cases h
@[simp] def soFld (id j : Nat) (Fo Fv : FE) : FS := fun e s => (Fv e s).flo e fun d s1 => (Fo e s1).flo e fun o s2 => match inst id o s2 with
  | some (n, ds) => match stored j d ds with
    | some ds' => .nx e (s2.set n (.ob id ds'))
    | none => .bad
  | none => .bad
theorem ds_fld (id j : Nat) {o v : Expr} {f : Str} {pos p2 : Pos} {Fo Fv : FE} {C : Addr} {fns : List Str} (hK : X.K = G.K) (O : ObC X G id C fns) (hj : fns[j]? = some f) (ho : PE X o (tE G Fo)) (hv : PE X v (tE G Fv))
    (hs : swapsWith v (some (.Attribute o f p2)) pos.line X.env = pure false := by rfl) : PS X (.Assign [.Attribute o f p2] v pos) (tS G (soFld id j Fo Fv)) :=
  PS_imp (ps_fld ho hv hs) fun D σ H ⟨w, e, s, I, h⟩ => by
    refine ⟨w, e, s, I, holds_imp (flo_holds h) fun d s1 h1 w1 dv H1 I1 x1 r1 => ?_⟩
    refine ⟨w1, e, s1, I1, holds_imp (flo_holds h1) fun ov s2 h2 w2 ovv H2 I2 x2 r2 => ?_⟩
    split at h2
    · rename_i n ds hi
      split at h2
      · rename_i ds' hd
        obtain ⟨a, dx, vs, rfl, k1, k2, k3, k4⟩ := inst_is I2 O r2 hi
        obtain ⟨vs', l1, l2, l3⟩ := stored_is O.nd hj hd (x2.rp r1) k4 k3
        have few : (fns.zip vs).length < 1000 := by
          rw [List.length_zip]
          have := O.few
          omega
        refine ⟨a, C, dx, _, rfl, k2, O.cls, O.no f (List.mem_of_getElem? hj), few, ?_⟩
        rw [l1]
        exact h2 w2 σ _ (I2.writeCell (ds := .ob id ds') k1 ⟨C, fns, dx, vs', O.xc, rfl, l3, l2⟩) ((x1.trans x2).f.trans ⟨.refl _, by rw [Fz_mem (List.mem_of_getElem? k1)]; exact .refl _⟩)
      · exact h2.elim
    · exact h2.elim
/-- o.f += v, ints -/
@[simp] def soFldAdd (id j : Nat) (Fo Fv : FE) : FS := fun e s => (Fo e s).flo e fun o s1 => match inst id o s1 with
  | some (n, ds) => match ds[j]? with
    | some (.int a) => (Fv e s1).flo e fun d s2 => match d with
      | .int b => match s2[n]? with
        | some (.ob id2 es) => if id2 = id ∧ j < es.length then .nx e (s2.set n (.ob id (es.set j (.int (a + b))))) else .bad
        | _ => .bad
      | _ => .bad
    | _ => .bad
  | none => .bad
theorem ds_fldAdd (id j : Nat) {o v : Expr} {f : Str} {pos p2 : Pos} {Fo Fv : FE} {C : Addr} {fns : List Str} (hK : X.K = G.K) (O : ObC X G id C fns) (hj : fns[j]? = some f) (ho : PE X o (tE G Fo)) (hv : PE X v (tE G Fv)) : PS X (.AugAssign (.Attribute o f p2) .Add v pos) (tS G (soFldAdd id j Fo Fv)) :=
  PS_imp (ps_fldaug ho hv in_add) fun D σ H ⟨w, e, s, I, h⟩ => by
    refine ⟨w, e, s, I, holds_imp (flo_holds h) fun ov s1 h1 w1 ovv H1 I1 x1 r1 => ?_⟩
    split at h1
    · rename_i n ds hi
      split at h1
      · rename_i i hd
        obtain ⟨a, dx, vs, rfl, k1, k2, k3, k4⟩ := inst_is I1 O r1 hi
        obtain ⟨v, l1, l2⟩ := k4.get' hd
        refine ⟨a, C, dx, _, v, rfl, k2, O.cls, O.no f (List.mem_of_getElem? hj), look_zip O.nd hj l1, w1, e, s1, I1, holds_imp (flo_holds h1) fun d s2 h2 w2 y H2 I2 x2 r2 => ?_⟩
        split at h2
        · rename_i b
          split at h2
          · rename_i id2 es hs
            split at h2
            · rename_i c
              obtain ⟨e1, c⟩ := c
              subst e1
              have ka := x2.beg.get k1
              obtain ⟨a', dx', vs', t1, t2, t3, t4⟩ := I2.cellO O.xc hs
              rw [ka] at t1; cases t1
              have few : (fns.zip vs').length < 1000 := by
                rw [List.length_zip]
                have := O.few
                omega
              refine ⟨i, b, rp_int l2, rp_int r2, dx', _, t2, few, ?_⟩
              rw [put_zip O.nd hj (by rw [t4.length]; exact c)]
              exact h2 w2 σ _ (I2.writeCell (ds := .ob id2 (es.set j (.int (i + b)))) ka ⟨C, fns, dx', _, O.xc, rfl, by rw [List.length_set]; exact t3, t4.set j rp_i⟩) ((x1.trans x2).f.trans ⟨.refl _, by rw [Fz_mem (List.mem_of_getElem? ka)]; exact .refl _⟩)
            · exact h2.elim
          · exact h2.elim
        · exact h2.elim
      · exact h1.elim
    · exact h1.elim
/-! ### o.m(..) -/
/-- o.m(..), what it raises wished for at the slots -/
def tMethE (C : Addr) (m : Str) (sp : Sp) (E : L2.St → XK) (ta : TE) (t : TA) : TE := fun σ H Q => ta σ H fun x H1 => ∃ a dx fs, x = .ref a ∧ H1 a = some (.ins C dx fs) ∧ fs.lookup m = none ∧ t σ H1 fun vs H2 => sp (x :: vs) H2 Q (E σ)
section
variable {CX : CXT} {k : Nat} {f C : Addr} {fd : FuncData} {ps : List Str} {sp : Sp} {E : L2.St → XK} {m : Str} {pos apos : Pos} {e o : Expr} {es : List Expr} {ta : TE} {t : TA} {pl : Sem Bool}
theorem pe_methE (he : PE X o ta) (cc : Cls X.K C) (mm : Meth X.K C m f) (FF : FnOk X.prog X.w X.K X.mg X.base CX k f fd ps sp) (hr : Room k X.A) (hb : Binds X.K fd ps []) (hx : ∀ σ, PassesAt CX X σ (E σ)) (ha : PA X (e :: es) t)
    (h1 : starEach (e :: es) X.env = (false, eval e X.env) :: starEach es X.env := by rfl) (h2 : (backTo pos (starEach es X.env)).any (·.1) = false := by rfl)
    (h3 : eval (.Call (.Attribute o m apos) (e :: es) [] pos) X.env = (do
      let u ← eval o X.env
      standAt apos.atName
      let (g, one) ← holding [u] (getMethod u m pl)
      callWith pos g one (backTo pos (starEach (e :: es) X.env)) (backToKw pos (keywordEach [] X.env))) := by rfl) :
    PE X (.Call (.Attribute o m apos) (e :: es) [] pos) (tMethE C m sp E ta t) := ⟨fun pins s σ H Q I h => by
  refine PySem.W.methodCall_KW (pl := pl) (thn (he.run pins s σ H _ I h) fun u s1 ⟨x, H1, I1, rx, a, dx, fs, ex, ea, l, q⟩ => ?_) h3
  subst ex
  cases (show u = Value.ref a from rx)
  refine getmeth_ok I1 ea cc mm l (PySem.W.callWith_K (first := [.ref a]) (h₀ := X.base) I.ok.mod.kin mm.kp (thn (ha.run pos pins s1 σ H1 _ I1 q) fun us s2 ⟨vs, H2, I2, r, q2⟩ => ⟨I2.kIn, ?_⟩) h1 h2)
  exact run_fnS (us := .ref a :: us) (vs := .ref a :: vs) FF hr hb (hx σ) I2 (.cons rfl r) q2⟩
theorem pe_methE0 (he : PE X o ta) (cc : Cls X.K C) (mm : Meth X.K C m f) (FF : FnOk X.prog X.w X.K X.mg X.base CX k f fd ps sp) (hr : Room k X.A) (hb : Binds X.K fd ps []) (hx : ∀ σ, PassesAt CX X σ (E σ))
    (h3 : eval (.Call (.Attribute o m apos) [] [] pos) X.env = (do
      let u ← eval o X.env
      standAt apos.atName
      let (g, one) ← holding [u] (getMethod u m pl)
      callWith pos g one (backTo pos (starEach [] X.env)) (backToKw pos (keywordEach [] X.env))) := by rfl) :
    PE X (.Call (.Attribute o m apos) [] [] pos) (tMethE C m sp E ta tNil) := ⟨fun pins s σ H Q I h => by
  refine PySem.W.methodCall_KW (pl := pl) (thn (he.run pins s σ H _ I h) fun u s1 ⟨x, H1, I1, rx, a, dx, fs, ex, ea, l, q⟩ => ?_) h3
  subst ex
  cases (show u = Value.ref a from rx)
  exact getmeth_ok I1 ea cc mm l (PySem.W.callWith_K0 (first := [.ref a]) I1.kIn mm.kp (run_fnS (us := [.ref a]) (vs := [.ref a]) FF hr hb (hx σ) I1 (.cons rfl .nil) q))⟩
end
@[simp] def oMethR (id : Nat) (g : List Dat → Sto → Res Dat) (Fo : FE) (Fs : FA) : FE := fun e s => (Fo e s).bind fun o s1 => match inst id o s1 with
  | some _ => (Fs e s1).bind fun ds s2 => g (o :: ds) s2
  | none => .bad
@[simp] def oMeth (id : Nat) (g : List Dat → Sto → Res Dat) (Fo : FE) (Fs : FA) : FE := fun e s => (Fo e s).bind fun o s1 => match inst id o s1 with
  | some _ => (Fs e s1).bind fun ds s2 => (g (o :: ds) s2).noex
  | none => .bad
theorem passAtN {P : Program} {w : World} (σ : L2.St) : PassesAt (L2.CX P w) X σ (fun _ _ _ => False) := fun pins H s e s' I c => passN pins σ H s e s' I c
theorem passAt0 {E : XK} (σ : L2.St) : PassesAt CX0 X σ E := fun pins H s e s' I c => pass0 pins σ H s e s' I c
section
variable {k : Nat} {f C : Addr} {fd : FuncData} {ps : List Str} {m : Str} {pos apos : Pos} {a o : Expr} {es : List Expr} {pl : Sem Bool} {g : List Dat → Sto → Res Dat} {Fo : FE} {Fs : FA} {fns : List Str}
theorem tNil_of {σ : L2.St} {H : Hp} {Q : List V → Hp → Prop} (h : tA G fNil σ H Q) : tNil σ H Q := by
  obtain ⟨w, e, s, I, h⟩ := h
  exact h w [] H I .refl RpL.nil
theorem methR_of {id : Nat} (O : ObC X G id C fns) (hm : m ∉ fns) {t : TA} (ht : ∀ σ H Q, tA G Fs σ H Q → t σ H Q) {σ : L2.St} {H : Hp} {Q : VK} (h : tE G (oMethR id g Fo Fs) σ H Q) : tMethE C m (spX G.K G.xc g) (fun σ cls d H => G.W cls d σ H) (tE G Fo) t σ H Q := by
  obtain ⟨w, e, s, I, h⟩ := h
  refine ⟨w, e, s, I, holds_imp (holds_bind h) fun ov s1 h1 w1 x H1 I1 x1 r1 => ?_⟩
  split at h1
  · rename_i p hi
    obtain ⟨n, ds⟩ := p
    obtain ⟨a, dx, vs, rfl, k1, k2, k3, k4⟩ := inst_is I1 O r1 hi
    refine ⟨a, dx, _, rfl, k2, look_no hm, ht _ _ _ ⟨w1, e, s1, I1, holds_imp (holds_bind h1) fun ds s2 h2 w2 us H2 I2 x2 r2 => ?_⟩⟩
    refine ⟨w2, ov :: ds, s2, I2.ci, RpL.cons (x2.rp r1) r2, holds_imp h2 (fun d s3 h3 w3 v H3 af r3 => ?_) fun y s3 h3 w3 H3 cls d af r3 => ?_⟩
    · obtain ⟨J, ex⟩ := I2.back af
      exact h3 w3 v H3 J ((x1.trans x2).trans ex) r3
    · obtain ⟨J, ex⟩ := I2.back af
      exact h3 w3 H3 cls d J ((x1.trans x2).trans ex) r3
  · exact h1.elim
theorem meth_of {id : Nat} (O : ObC X G id C fns) (hm : m ∉ fns) {t : TA} (ht : ∀ σ H Q, tA G Fs σ H Q → t σ H Q) {σ : L2.St} {H : Hp} {Q : VK} (h : tE G (oMeth id g Fo Fs) σ H Q) : tMethE C m (spX G.K G.xc g) (fun _ _ _ _ => False) (tE G Fo) t σ H Q := by
  obtain ⟨w, e, s, I, h⟩ := h
  refine ⟨w, e, s, I, holds_imp (holds_bind h) fun ov s1 h1 w1 x H1 I1 x1 r1 => ?_⟩
  split at h1
  · rename_i p hi
    obtain ⟨n, ds⟩ := p
    obtain ⟨a, dx, vs, rfl, k1, k2, k3, k4⟩ := inst_is I1 O r1 hi
    refine ⟨a, dx, _, rfl, k2, look_no hm, ht _ _ _ ⟨w1, e, s1, I1, holds_imp (holds_bind h1) fun ds s2 h2 w2 us H2 I2 x2 r2 => ?_⟩⟩
    refine ⟨w2, ov :: ds, s2, I2.ci, RpL.cons (x2.rp r1) r2, holds_imp (holds_noex h2 (fun _ _ => False)) (fun d s3 h3 w3 v H3 af r3 => ?_) fun _ _ z => z.elim⟩
    obtain ⟨J, ex⟩ := I2.back af
    exact h3 w3 v H3 J ((x1.trans x2).trans ex) r3
  · exact h1.elim
/-- a method's call by rule: what may be raised is taken -/
theorem de_methR (id : Nat) (O : ObC X G id C fns) (hm : m ∉ fns) (mm : Meth X.K C m f) (GF : FnOk X.prog X.w X.K X.mg X.base (L2.CX X.prog X.w) k f fd ps (spX G.K G.xc g)) (hr : Room k X.A) (hb : Binds X.K fd ps []) (tk : Takes X G.W) (ho : PE X o (tE G Fo)) (ha : PA X (a :: es) (tA G Fs))
    (h1 : starEach (a :: es) X.env = (false, eval a X.env) :: starEach es X.env := by rfl) (h2 : (backTo pos (starEach es X.env)).any (·.1) = false := by rfl)
    (h3 : eval (.Call (.Attribute o m apos) (a :: es) [] pos) X.env = (do
      let u ← eval o X.env
      standAt apos.atName
      let (g, one) ← holding [u] (getMethod u m pl)
      callWith pos g one (backTo pos (starEach (a :: es) X.env)) (backToKw pos (keywordEach [] X.env))) := by rfl) : PE X (.Call (.Attribute o m apos) (a :: es) [] pos) (tE G (oMethR id g Fo Fs)) :=
  PE_imp (pe_methE (pl := pl) ho O.cls mm GF hr hb (fun σ => passAt tk σ) ha h1 h2 h3) fun σ H Q h => methR_of O hm (fun _ _ _ z => z) h
theorem de_methR0 (id : Nat) (O : ObC X G id C fns) (hm : m ∉ fns) (mm : Meth X.K C m f) (GF : FnOk X.prog X.w X.K X.mg X.base (L2.CX X.prog X.w) k f fd ps (spX G.K G.xc g)) (hr : Room k X.A) (hb : Binds X.K fd ps []) (tk : Takes X G.W) (ho : PE X o (tE G Fo))
    (h3 : eval (.Call (.Attribute o m apos) [] [] pos) X.env = (do
      let u ← eval o X.env
      standAt apos.atName
      let (g, one) ← holding [u] (getMethod u m pl)
      callWith pos g one (backTo pos (starEach [] X.env)) (backToKw pos (keywordEach [] X.env))) := by rfl) : PE X (.Call (.Attribute o m apos) [] [] pos) (tE G (oMethR id g Fo fNil)) :=
  PE_imp (pe_methE0 (pl := pl) ho O.cls mm GF hr hb (fun σ => passAt tk σ) h3) fun σ H Q h => methR_of O hm (fun _ _ _ z => tNil_of z) h
theorem de_meth (id : Nat) {CX : CXT} (O : ObC X G id C fns) (hm : m ∉ fns) (mm : Meth X.K C m f) (GF : FnOk X.prog X.w X.K X.mg X.base CX k f fd ps (spX G.K G.xc g)) (hr : Room k X.A) (hb : Binds X.K fd ps []) (hx : ∀ σ, PassesAt CX X σ (fun _ _ _ => False)) (ho : PE X o (tE G Fo)) (ha : PA X (a :: es) (tA G Fs))
    (h1 : starEach (a :: es) X.env = (false, eval a X.env) :: starEach es X.env := by rfl) (h2 : (backTo pos (starEach es X.env)).any (·.1) = false := by rfl)
    (h3 : eval (.Call (.Attribute o m apos) (a :: es) [] pos) X.env = (do
      let u ← eval o X.env
      standAt apos.atName
      let (g, one) ← holding [u] (getMethod u m pl)
      callWith pos g one (backTo pos (starEach (a :: es) X.env)) (backToKw pos (keywordEach [] X.env))) := by rfl) : PE X (.Call (.Attribute o m apos) (a :: es) [] pos) (tE G (oMeth id g Fo Fs)) :=
  PE_imp (pe_methE (pl := pl) ho O.cls mm GF hr hb hx ha h1 h2 h3) fun σ H Q h => meth_of O hm (fun _ _ _ z => z) h
theorem de_meth0 (id : Nat) {CX : CXT} (O : ObC X G id C fns) (hm : m ∉ fns) (mm : Meth X.K C m f) (GF : FnOk X.prog X.w X.K X.mg X.base CX k f fd ps (spX G.K G.xc g)) (hr : Room k X.A) (hb : Binds X.K fd ps []) (hx : ∀ σ, PassesAt CX X σ (fun _ _ _ => False)) (ho : PE X o (tE G Fo))
    (h3 : eval (.Call (.Attribute o m apos) [] [] pos) X.env = (do
      let u ← eval o X.env
      standAt apos.atName
      let (g, one) ← holding [u] (getMethod u m pl)
      callWith pos g one (backTo pos (starEach [] X.env)) (backToKw pos (keywordEach [] X.env))) := by rfl) : PE X (.Call (.Attribute o m apos) [] [] pos) (tE G (oMeth id g Fo fNil)) :=
  PE_imp (pe_methE0 (pl := pl) ho O.cls mm GF hr hb hx h3) fun σ H Q h => meth_of O hm (fun _ _ _ z => tNil_of z) h
/-! ### C(..) -/
@[simp] def oMake (id : Nat) (g : List Dat → Sto → Res Dat) (Fs : FA) : FE := fun e s => (Fs e s).bind fun ds s1 => (g (cel s1.length :: ds) (s1 ++ [.ob id []])).noex.bind fun d s2 => match d with
  | .none => .ok (cel s1.length) s2
  | _ => .bad
theorem de_make (id : Nat) {CX : CXT} {x : Str} {p : Pos} (O : ObC X G id C fns) (M : Mk X.K C f) (GF : FnOk X.prog X.w X.K X.mg X.base CX k f fd ps (spX G.K G.xc g)) (hr : Room (k + 1) X.A) (hmg : X.mg x = some (.ref C)) (hb : Binds X.K fd ps []) (hx : Passes CX X (fun _ _ _ => False)) (ha : PA X (a :: es) (tA G Fs)) (hg : Gl X x := by rfl)
    (hdb : (x == ("__debug__" : Str)) = false := by decide) (h1 : starEach (a :: es) X.env = (false, eval a X.env) :: starEach es X.env := by rfl) (h2 : (backTo pos (starEach es X.env)).any (·.1) = false := by rfl) : PE X (.Call (.Name x p) (a :: es) [] pos) (tE G (oMake id g Fs)) :=
  PE_imp (pe_make M GF hr hg hmg hb .nil hx ha hdb h1 h2) fun σ H Q ⟨w, e, s, I, h⟩ => by
    refine ⟨w, e, s, I, holds_imp (holds_bind h) fun ds s1 h1 w1 vs H1 I1 x1 r1 => ?_⟩
    intro x dx nx ndx nex
    have I2 := I1.new (o := .own x) ndx
    have nx2 : (upd H1 dx (.own x)) x = none := by rw [upd_ne (Ne.symm nex)]; exact nx
    have E2 := I1.newE (o := .own x) ndx
    have I3 : IE G ⟨w1.as ++ [x], w1.ow⟩ e (s1 ++ [.ob id []]) σ (upd (upd H1 dx (.own x)) x (.ins C dx [])) := I2.newCell (ds := .ob id []) nx2 ⟨C, fns, dx, [], O.xc, by simp, Nat.zero_le _, RpL.nil⟩
    have E3 : EExt w1 (upd H1 dx (.own x)) ⟨w1.as ++ [x], w1.ow⟩ (upd (upd H1 dx (.own x)) x (.ins C dx [])) := I2.cellE nx2
    have E13 := E2.trans E3
    have rs : RpL G.K (w1.as ++ [x]) (Fz ⟨w1.as ++ [x], w1.ow⟩ (upd (upd H1 dx (.own x)) x (.ins C dx []))) (cel s1.length :: ds) (.ref x :: vs) := RpL.cons (cel_rp I1) (E13.rpl r1)
    refine ⟨_, _, _, I3.ci, by rw [List.append_nil]; exact rs, holds_imp (holds_noex (holds_bind h1) (fun _ _ => False)) (fun d s2 h2 w2 v H2 af r2 => ?_) fun _ _ z => z.elim⟩
    obtain ⟨J, ex⟩ := I3.back af
    split at h2
    · refine ⟨rp_none r2, h2 w2 _ H2 J (x1.trans (E13.trans ex)) ?_⟩
      exact ex.rp (cel_rp I1)
    · exact h2.elim
end
end
end DL

/-! ### self.f = v on an exception of an own class over Exception -/
namespace PySem
namespace ExF
open PySem.W PySem.Calls PyProof.Rows PySem.HandSPX
/-- what a chain of classes must say -/
structure Chain (mro : List Value) : Prop where
  ob : mro.contains (.type "object") = true
  ne : mro.isEmpty = false
  pass : ∀ self, refuseLoop self "__setattr__" mro = pure ()
theorem chain2 (C B : Addr) : Chain [.ref C, .ref B, .type "Exception", .type "BaseException", .type "object"] :=
  ⟨by rw [List.contains_cons, List.contains_cons]; rfl, rfl, fun self => by rw [refuseLoop_ref, refuseLoop_ref]; exact F.store_Exception.passes self⟩
section
variable {prog : Program} {w : World} {A : Around} {R : Result → Shared → Prop} {hp : Heap} {g : Array GenState} {dr : Drawn} {t : Nat} {os : OsState} {K : Frag} {nm : Str} {tk : Tok} {v : Value} {x C dx : Addr} {fv : Array Value} {cd : ClassData}
open Builtin Builtin.ObjectAttr
theorem put_first (X : K.In hp) (hx : hp.get? x = some { cls := .ref C, data := .fields fv }) (hcd : W.clsIn K C = some cd) (hm : Chain cd.mro) (hh : cd.hasDict = true) (ha : W.findIn K (.ref C) nm = some none)
    (hq : ∀ h2 tk2 d2, (∀ b o, b ≠ x → hp.get? b = some o → h2.get? b = some o) → hp.objs.size ≤ d2 → d2 ≠ x → h2.get? x = some { cls := .ref C, dict := some d2, data := .fields fv } → h2.Ns1 d2 (fun y => if y = nm then some v else none) → R (.ok (.ret .none)) ⟨h2, g, dr, tk2, os⟩) :
    codeAny (model prog w) A (.call (.builtin "object.__setattr__") ⟨[.ref x, .str nm tk, v], []⟩) R ⟨hp, g, dr, t, os⟩ := by
  have hxs : x ≠ hp.objs.size := Nat.ne_of_lt (Heap.lt_size hx)
  have at_ : W.InstAt hp x { cls := .ref C, data := .fields fv } C none := ⟨hx, rfl, rfl, trivial⟩
  have isob : W.Looks (model prog w) hp (isInstance (.ref x) (.type "object")) true := at_.type.andThen (W.looks_mroIn X (by unfold W.mroIn; rw [hcd, Option.bind_some, if_neg (by rw [hm.ne]; decide), hm.ob]))
  have ST := F.store_object
  refine codeAny_call_builtin ST.slot.plain ST.entry (@W.check_slot (model prog w) _ _ ⟨hp, g, dr, t, os⟩ "object.__setattr__" "object" "__setattr__" (.ref x) [.str nm tk, v] [] _ ST.kind ST.split isob (ST.args (.ref x) (.str nm tk) v) ?_)
  have look : W.Looks (model prog w) hp (classData C) cd := W.looks_clsIn X hcd
  have lookM : W.Looks (model prog w) hp (mroOf (.ref C)) cd.mro := look.andThen .now
  have lookT : W.Looks (model prog w) hp (storeTaker? none) none := .now
  rw [W.osa_eq, refuse_eq]
  refine wpAny_bind (wpAny_bind (at_.type.at (wpAny_bind (lookM.at ?_))))
  rw [hm.pass]
  refine wpAny_pure (wpAny_bind (at_.type.at (wpAny_bind ((W.looks_findIn X ha).at (wpAny_bind (lookT.at ?_))))))
  show wpAny _ _ (storeInOwnDict (.ref x) (.ref C) (.str nm tk) nm v false) _ _ _
  obtain ⟨cn, bs, mro, ns, qn, hd, sn, sb, ab, col, del⟩ := cd
  dsimp only at hh
  subst hh
  unfold storeInOwnDict ownDictForStores
  repeat (first | with_reducible refine store_in_new ?_ ?_ | with_reducible refine wpAny_loadPart_at hx ?_ | with_reducible refine look.at ?_ | wp_step)
  · exact ⟨_, #[], _, (Heap.get?_update_ne _ _ _ _ hxs.symm).trans (Heap.get?_push_at rfl rfl), rfl, fun z hz => absurd hz (by simp), fun _ => rfl⟩
  · intro h2 tk2 hn hs
    have was : (hp.push { cls := .type "dict", data := .dict #[] }).get? x = some { cls := .ref C, data := .fields fv } := Heap.get?_push_of_some _ hx
    exact hq h2 tk2 hp.objs.size (fun b o hb ho => (hs.2 b (Nat.ne_of_lt (Heap.lt_size ho))).trans ((Heap.get?_update_ne _ _ _ _ hb).trans (Heap.get?_push_of_some _ ho))) (Nat.le_refl _) hxs.symm ((hs.2 x hxs).trans (Heap.get?_update_self _ was rfl)) hn
theorem put_next {m0 : Str → Option Value} {nl : List Str} (X : K.In hp) (hx : hp.get? x = some { cls := .ref C, dict := some dx, data := .fields fv }) (hns : hp.Ns1 dx m0) (hw : Within m0 nl) (hz : nl.length ≤ 1000) (hcd : W.clsIn K C = some cd) (hm : Chain cd.mro) (hh : cd.hasDict = true) (ha : W.findIn K (.ref C) nm = some none)
    (hq : ∀ h2 tk2, (∀ b o, b ≠ dx → hp.get? b = some o → h2.get? b = some o) → h2.Ns1 dx (fun y => if y = nm then some v else m0 y) → R (.ok (.ret .none)) ⟨h2, g, dr, tk2, os⟩) :
    codeAny (model prog w) A (.call (.builtin "object.__setattr__") ⟨[.ref x, .str nm tk, v], []⟩) R ⟨hp, g, dr, t, os⟩ := by
  obtain ⟨oD, esD, epD, hoD, hdD, _⟩ := hns.count hw
  have at_ : W.InstAt hp x { cls := .ref C, dict := some dx, data := .fields fv } C (some oD) := ⟨hx, rfl, rfl, hoD⟩
  have isob : W.Looks (model prog w) hp (isInstance (.ref x) (.type "object")) true := at_.type.andThen (W.looks_mroIn X (by unfold W.mroIn; rw [hcd, Option.bind_some, if_neg (by rw [hm.ne]; decide), hm.ob]))
  have ST := F.store_object
  refine codeAny_call_builtin ST.slot.plain ST.entry (@W.check_slot (model prog w) _ _ ⟨hp, g, dr, t, os⟩ "object.__setattr__" "object" "__setattr__" (.ref x) [.str nm tk, v] [] _ ST.kind ST.split isob (ST.args (.ref x) (.str nm tk) v) ?_)
  have look : W.Looks (model prog w) hp (classData C) cd := W.looks_clsIn X hcd
  have lookM : W.Looks (model prog w) hp (mroOf (.ref C)) cd.mro := look.andThen .now
  have lookT : W.Looks (model prog w) hp (storeTaker? none) none := .now
  rw [W.osa_eq, refuse_eq]
  refine wpAny_bind (wpAny_bind (at_.type.at (wpAny_bind (lookM.at ?_))))
  rw [hm.pass]
  refine wpAny_pure (wpAny_bind (at_.type.at (wpAny_bind ((W.looks_findIn X ha).at (wpAny_bind (lookT.at ?_))))))
  show wpAny _ _ (storeInOwnDict (.ref x) (.ref C) (.str nm tk) nm v false) _ _ _
  obtain ⟨cn, bs, mro, ns, qn, hd, sn, sb, ab, col, del⟩ := cd
  dsimp only at hh
  subst hh
  unfold storeInOwnDict ownDictForStores
  repeat (first | with_reducible refine PySem.OEX.store_in_old hns hw hz ?_ | with_reducible refine wpAny_loadPart_at hx ?_ | with_reducible refine look.at ?_ | wp_step)
  exact fun h2 tk2 hn hs => hq h2 tk2 (fun b o hb ho => (hs.2 b hb).trans ho) hn
end
theorem one_line {us : List Value} (h : us.length ≤ 1000) : us.length ≤ sizeLine := by
  rw [sizeLine_eq]
  omega
theorem kept_in {K : Frag} {h h2 : Heap} {x : Addr} (X : K.In h) (hx : K.lookup x = none) (k : ∀ b o, b ≠ x → h.get? b = some o → h2.get? b = some o) : K.In h2 := fun a o e => k a o (fun z => by rw [z, hx] at e; cases e) (X a o e)
theorem ld_local {M : Model} {s : Shared} {qn : Str} {sc : Scope} {L a : Addr} {cd : Value} {m : Str → Option Value} {y : Str} {pos : Pos} {v : Value} {Q : Value → Shared → Prop} {A : Around} {E : Value → Shared → Prop} (hn : s.heap.Ns L m) (hv : m y = some v) (h : Q v s)
    (hk : sc.kind = .function := by rfl) (hl : (envOfC qn sc L a cd).kindOf y = some .local := by rfl) (hd : (y == ("__debug__" : Str)) = false := by decide) : wpAny M A (eval (.Name y pos) (envOfC qn sc L a cd)) Q E s := wpAny_Name (wpAny_loadName_local hk hl hn hv h) hd
/-- what __init__ leaves of a fresh exception at x -/
structure Begun (h h2 : Heap) (x C d t1 : Addr) (f : Str → Option Value) : Prop where
  keep : ∀ b o, b ≠ x → h.get? b = some o → h2.get? b = some o
  obj : h2.get? x = some { cls := .ref C, dict := some d, data := .fields #[.ref t1, .none, .none, .none, .bool false, .none] }
  big : h.objs.size ≤ d
  ne : d ≠ x
  ns : h2.Ns1 d f
/-- a made exception -/
structure Made (h h2 : Heap) (e C d : Addr) (f : Str → Option Value) : Prop where
  keep : ∀ b o, h.get? b = some o → h2.get? b = some o
  new : h.objs.size ≤ e
  obj : ∃ oe vs, h2.get? e = some oe ∧ oe.cls = .ref C ∧ oe.dict = some d ∧ oe.data = .fields vs ∧ vs[1]? = some .none
  big : h.objs.size ≤ d
  ne : d ≠ e
  ns : h2.Ns1 d f
/-- what the written part says of an exception's class at C, over the class at B over Exception -/
structure ExC (K : Frag) (C B fI : Addr) : Prop where
  cls : ∃ nm q N bs sn sub ab col dd k0 k1 k2 k3 k5, K.lookup C = some (excClassObj nm q C N bs [.ref B, .type "Exception", .type "BaseException", .type "object"] true sn sub ab col dd k0 k1 k2 k3 k5 "Exception.__new__")
  sa : findIn K (.ref C) "__setattr__" = some (some (.builtin "object.__setattr__"))
  ga : findIn K (.ref C) "__getattribute__" = some (some (.builtin "BaseException.__getattribute__"))
  gg : findIn K (.ref C) "__getattr__" = some none
  iC : findIn K (.ref C) "__init__" = some (some (.ref fI))
  tI : typeIn K (.ref fI) = some (.type "function")
  kC : keepIn K (.ref C) = true
  exC : subIn K (.ref C) (.type "BaseException") = some true
  tyC : typeIn K (.ref C) = some (.type "type")
  hdC : hasDictIn K C = true
section
variable {prog : Program} {w : World} {A : Around} {R : Result → Shared → Prop} {s : Shared} {K : Frag} {C B fI : Addr}
theorem made_of (T : ExC K C B fI) {us : List Value} {f : Str → Option Value} (hl : us.length ≤ 1000) (X : K.In s.heap) (hlim : s.heap.NoLimit) (hroom : A.depth + 1 < recursionLimit)
    (init : ∀ {A : Around} {R : Result → Shared → Prop} {s : Shared} {x t0 : Addr}, K.In s.heap → s.heap.NoLimit → s.heap.get? x = some (excO C t0) → K.lookup x = none → A.depth < recursionLimit → (∀ h2 tk d, Begun s.heap h2 x C d t0 f → R (.ok (.ret .none)) { s with heap := h2, toks := tk }) → codeAny (model prog w) A (.call (.ref fI) ⟨.ref x :: us, []⟩) R s)
    (hq : ∀ h2 tk e d, Made s.heap h2 e C d f → R (.ok (.ret (.ref e))) { s with heap := h2, toks := tk }) : codeAny (model prog w) A (.call (.ref C) ⟨us, []⟩) R s := by
  obtain ⟨nm, q, N, bs, sn, sub, ab, col, dd, k0, k1, k2, k3, k5, hC⟩ := T.cls
  obtain ⟨hp, g, dr, tk, os⟩ := s
  have up : ∀ b o, hp.get? b = some o → ((hp.push (kdv_tup us)).push (excO C hp.objs.size)).get? b = some o := fun b o e => Heap.get?_push_of_some _ (Heap.get?_push_of_some _ e)
  have at_ : ((hp.push (kdv_tup us)).push (excO C hp.objs.size)).get? (hp.objs.size + 1) = some (excO C hp.objs.size) := by heap_get
  have none_ : K.lookup (hp.objs.size + 1) = none := by
    cases e : K.lookup (hp.objs.size + 1) with
    | none => rfl
    | some o => exact absurd (Nat.lt_of_succ_lt (Heap.lt_size (show hp.get? (hp.objs.size + 1) = some o from X _ _ e))) (Nat.lt_irrefl _)
  refine call_own F.excBase_Exception (fun Y => by rw [List.contains_cons]; rfl) (X _ _ hC) (looks_findIn X T.iC) (fun self => bind_fn X self T.tI) (one_line hl) ?_
  refine init (s := ⟨(hp.push (kdv_tup us)).push (excO C hp.objs.size), g, dr, tk, os⟩) (X.keeps up) (hlim.keeps up) at_ none_ (show A.depth + 1 < recursionLimit from hroom) fun h2 tk2 d BB => ?_
  have big : hp.objs.size + 1 + 1 ≤ d := by
    have q := BB.big
    first
      | exact q
      | (simpa only [Heap.size_push] using q)
  exact ⟨rfl, hq h2 tk2 (hp.objs.size + 1) d ⟨fun b o e => BB.keep b o (Nat.ne_of_lt (Nat.lt_succ_of_lt (Heap.lt_size e))) (up b o e), Nat.le_succ _, ⟨_, _, BB.obj, rfl, rfl, rfl, rfl⟩, Nat.le_trans (Nat.le_trans (Nat.le_succ _) (Nat.le_succ _)) big, BB.ne, BB.ns⟩⟩
end
end ExF
end PySem
namespace DL
open PySem PySem.Spec PyProof.Rows L2 PySem.ExF
section
variable {X : Cx} {G : Gx} {C B fI : Addr}
/-- C(e, ..): its fields are its arguments -/
def tMkEx (C : Addr) (fns : List Str) (ta : TA) : L2.St → Hp → XK → Prop := fun σ H Q => ta σ H fun vs H1 => vs.length = fns.length ∧ ∀ d, H1 d = none → Q (.ref C) (some d) (upd H1 d (.xd (fns.zip vs)))
theorem pmk_ex {a : Expr} {es : List Expr} {x : Str} {ta : TA} {p pos : Pos} {k : Nat} {fns : List Str} (T : ExC X.K C B fI) (hf : fns.length ≤ 1000) (hmg : X.mg x = some (.ref C)) (hr : Room k X.A) (ha : PA X (a :: es) ta) (fm : List Value → Str → Option Value)
    (made : ∀ {A : Around} {R : Result → Shared → Prop} {s : Shared} {us : List Value}, us.length = fns.length → X.K.In s.heap → s.heap.NoLimit → A.depth + 1 < recursionLimit → (∀ h2 tk e d, Made s.heap h2 e C d (fm us) → R (.ok (.ret (.ref e))) { s with heap := h2, toks := tk }) → codeAny (model X.prog X.w) A (.call (.ref C) ⟨us, []⟩) R s)
    (hfm : ∀ (vs : List V) (us : List Value), Vals vs us → vs.length = fns.length → ∀ f, RelO ((fns.zip vs).lookup f) (fm us f)) (hg : Gl X x := by rfl) (hdb : (x == ("__debug__" : Str)) = false := by decide)
    (he : starEach (a :: es) X.env = (false, eval a X.env) :: starEach es X.env := by rfl) (hpl : (backTo pos (starEach es X.env)).any (·.1) = false := by rfl) : PMk X (.Call (.Name x p) (a :: es) [] pos) (tMkEx C fns ta) := by
  intro pins s σ H Q I h
  refine wpAny_Call_Name_kw (ld_glob I hg hmg ?_ hdb)
  refine PySem.W.callWith_K (h₀ := X.base) I.ok.mod.kin T.kC (thn (ha.run pos pins s σ H _ I h) fun us s1 ⟨vs, H1, I1, r1, hl, q1⟩ => ⟨I1.kIn, ?_⟩) he hpl
  show wpAny _ _ (call (.ref C) us) _ _ _
  have hlim := I1.nolimit
  have hus : us.length = fns.length := by rw [← hl]; exact (Paired.length r1).symm
  obtain ⟨hp, g, dr, tk, os⟩ := s1
  refine wpAny_call (made hus I1.kIn hlim (by have := hr.dp; omega) fun h2 tk2 e d M => ?_)
  show MkP X pins σ Q (.ref e) ⟨h2, g, dr, tk2, os⟩
  obtain ⟨oe, fv, hoe, hc, hd, hdat, h1⟩ := M.obj
  obtain ⟨G2, g1, g2⟩ := restrict h2 fun b => decide (b ≠ e)
  have same : ∀ b, b ≠ e → G2.get? b = h2.get? b := fun b hb => g1 b (decide_eq_true hb)
  have gone : G2.get? e = none := g2 e (by simp)
  have old : ∀ b o, hp.get? b = some o → G2.get? b = some o := fun b o q => (same b (Nat.ne_of_lt (Nat.lt_of_lt_of_le (Heap.lt_size q) M.new))).trans (M.keep b o q)
  have ob : ObjOk X.prog X.w (upd H1 d (.xd (fns.zip vs))) G2 d (.xd (fns.zip vs)) := ⟨_, M.ns.at (fun o q => (same d M.ne).trans q), hfm vs us r1 hl⟩
  have J : Inv X pins σ (upd H1 d (.xd (fns.zip vs))) ⟨G2, g, dr, tk2, os⟩ := I1.laid (t' := tk2) old M.big ob
  refine ⟨e, oe, fv, ⟨G2, g, dr, tk2, os⟩, _, .ref C, some d, rfl, J, fun b o q => ?_, gone, hoe, ⟨hc, hd⟩, hdat, h1, ?_, rfl, I1.bare, raises_own T.exC T.tyC, q1 d (I1.hok.fresh M.big)⟩
  · by_cases hb : b = e
    · rw [hb] at q
      exact absurd (show G2.get? e = some o from q) (by rw [gone]; simp)
    · exact (same b hb).symm.trans q
  · rw [upd_ne (Ne.symm M.ne)]
    exact I1.hok.fresh M.new
/-- raise C(e, ..) -/
@[simp] def sRaise (id n : Nat) (Fs : FA) : FS := fun e s => (Fs e s).flo e fun ds s1 => if ds.length = n then .ex (.tuple (.int id :: ds)) e s1 else .bad
theorem ds_raise (id : Nat) {e : Expr} {pos : Pos} {Fs : FA} {fns : List Str} {n : Nat} (hc : X.calm = true) (tk : Takes X G.W) (hx : G.xc.ex id = some (C, fns)) (hn : fns.length = n) (hm : PMk X e (tMkEx C fns (tA G Fs))) : PS X (.Raise (some e) none pos) (tS G (sRaise id n Fs)) :=
  PS_imp (ps_raise hc tk hm) fun D σ H ⟨w, e, s, I, h⟩ => by
    refine ⟨w, e, s, I, holds_imp (flo_holds h) fun ds s1 h1 w1 vs H1 I1 x1 r1 => ?_⟩
    split at h1
    · rename_i c
      refine ⟨by rw [r1.length, c, hn], fun d hd => ?_⟩
      have I2 := I1.new (o := .xd (fns.zip vs)) hd
      have E2 := I1.newE (o := .xd (fns.zip vs)) hd
      refine h1 w1 σ _ _ _ I2 (x1.trans E2).f ⟨id, ds, C, fns, d, vs, rfl, hx, rfl, rfl, I1.newF hd, ?_, E2.rpl r1⟩
      rw [r1.length, c, hn]
    · exact h1.elim
end
end DL

namespace DL
open PySem PySem.Spec PyProof.Rows L2
/-! ### try: .. except A as n: .. except B: .. -/
/-- the ends behind a suite whose clause bears a name -/
abbrev dropped (i : Nat) (D : Ends) : Ends := { nx := fun σ H => D.nx (σ.set i none) H, rt := D.rt, bk := fun σ H => D.bk (σ.set i none) H, ct := fun σ H => D.ct (σ.set i none) H }
abbrev Suite := Addr → Value → Option Addr → TS
def wTwo (K : PySem.W.Frag) (A : Value) (i : Nat) (tA : Suite) (B : Value) (tB : Suite) (Wout : WX) (D : Ends) : WX := fun cls d σ H =>
  ∃ b, PySem.W.exmOne K cls A = some b ∧ (b = true → ∀ a, H a = none → tA a cls d (dropped i D) (σ.set i (some (.ref a))) H) ∧
    (b = false → ∃ b2, PySem.W.exmOne K cls B = some b2 ∧ (b2 = true → ∀ a, H a = none → tB a cls d D σ H) ∧ (b2 = false → Wout cls d σ H))
section
variable {X : Cx} {xA xB n : Str} {A B : Value} {i : Nat} {body sA sB : List Stmt} {a0 b0 : Stmt} {pA pB pos q1 q2 : Pos} {tb : WX → TS} {tA tB : Suite} {Wout : WX}
theorem clause_name {pins : List (Addr × Obj)} {σ : L2.St} {H : Hp} {s : Shared} {a : Addr} {oe : Obj} {x : Str} {c : Value} {np : Pos} {Q E : Value → Shared → Prop} (hc : Names X x c) (S : Inv (X.suite a ((a, oe) :: (X.pn ++ pins))) [] σ H s) (q : Q c s) :
    wpAny (model X.prog X.w) (X.A.mark (some (.ref a))) (eval (.Name x np) X.env) Q E s := by
  obtain ⟨g, nd, m | ⟨m, v, nn⟩⟩ := hc
  · exact ld_glob (X := X.suite a ((a, oe) :: (X.pn ++ pins))) S g m q nd
  · exact ld_blt (X := X.suite a ((a, oe) :: (X.pn ++ pins))) S g m v q nn nd
theorem ps_try_two (hs : X.stack = X.env :: X.outer) (hf : X.env.frame = some X.env.locals) (hN : X.N.Nodup) (hi : X.N[i]? = some n) (hl : X.env.kindOf n = some .local) (cA : Names X xA A) (cB : Names X xB B) (tk : Takes X Wout)
    (hb : ∀ (W : WX) (pn : List (Addr × Obj)) (xe : Value → Shared → Prop), Takes (X.tr pn xe) W → PassesOwn (model X.prog X.w) X.A X.env xe → PSs (X.tr pn xe) body (tb W))
    (hA : ∀ (a : Addr) (oe : Obj) (cls : Value) (d : Option Addr) (pn : List (Addr × Obj)), Zc cls d oe → (∃ vs, oe.data = .fields vs) → PSs (X.suite a ((a, oe) :: pn)) (a0 :: sA) (tA a cls d))
    (hB : ∀ (a : Addr) (oe : Obj) (cls : Value) (d : Option Addr) (pn : List (Addr × Obj)), Zc cls d oe → (∃ vs, oe.data = .fields vs) → PSs (X.suite a ((a, oe) :: pn)) (b0 :: sB) (tB a cls d)) :
    PS X (.Try body [.ExceptHandler (some (.Name xA pA)) (some n) (a0 :: sA) q1, .ExceptHandler (some (.Name xB pB)) none (b0 :: sB) q2] [] [] pos) (fun D σ H => tb (wTwo X.K A i tA B tB Wout D) D σ H) := ⟨fun pins s σ H D I h => by
  have ok := I.ok
  refine wpAny_Try_except (wpAny_mono ((hb (wTwo X.K A i tA B tB Wout D) (X.pn ++ pins) _ (fun u s2 xx => ?_) PassesOwn.looking).run [] s σ H D (I.toTry _) h) (fun f s1 q => ?_) fun u s1 z => z)
  · obtain ⟨a, Bs, sI, _, σ2, H2, cls, d, rfl, Jt, nb, up, sky, na, os, ag, b, e1, yes, no⟩ := xx
    have J : Inv X pins σ2 H2 sI := Jt.ofTry ok
    have hfr : X.A.frames = some (X.env :: X.outer) := ok.frames.trans (congrArg some hs)
    refine Sky.land (E₁ := X.xe) Zc.steady hfr hf (show Sky Bs (X.env :: X.outer) a (Zc cls d) X.env.locals s2.heap by rw [← hs]; exact sky) fun h3 fl up3 => ?_
    obtain ⟨oe, fv, g3, z3, d3⟩ := fl.there
    have off : a ∉ frs (X.env :: X.outer) := fun hm => by
      obtain ⟨_, o2, g2, nf⟩ := fl.2.2.1.mem hm
      rw [g3] at g2
      cases g2
      exact nf _ d3
    have offL : a ≠ X.env.locals := fun z => off (List.mem_filterMap.mpr ⟨X.env, List.mem_cons_self, hf.trans (congrArg some z.symm)⟩)
    have offF : a ∉ X.fs := fun hm => by
      obtain ⟨v, v1, v2⟩ := List.mem_filterMap.mp hm
      exact off (List.mem_filterMap.mpr ⟨v, List.mem_cons_of_mem _ v1, v2⟩)
    have J3 : Inv X pins σ2 H2 { s2 with heap := h3 } := J.landed nb fl.1 (up.trans up3) os ag
    have S3 := J3.suite g3 d3 na offL offF
    have LT : PySem.W.Looks (model X.prog X.w) h3 (typeOf (.ref a)) cls := fun A' Q' E' s' k q' => wpAny_typeOf_ref (k _ _ g3) (by rw [z3.1]; exact q')
    refine wpAny_handleBy_cons (codeAny_handlers_test ?_) (by intro q'; cases q')
    refine clause_name cA S3 ((PySem.W.exm_one (M := model X.prog X.w) J3.kIn LT e1).here ?_)
    cases b with
    | true =>
      refine codeAny_handlers_suite_as (HandSPX.lands_againZ fl fun h4 fl4 up4 => ?_)
      obtain ⟨oe4, _, g4, z4, d4⟩ := fl4.there
      have J4 : Inv X pins σ2 H2 { s2 with heap := h4 } := J.landed nb fl4.1 ((up.trans up3).trans up4) os ag
      refine store_ok (X := X.suite a ((a, oe4) :: (X.pn ++ pins))) (v := .ref a) (J4.suite g4 d4 na offL offF) hN hi (.inl hl) rfl (fun s5 S5 => ?_) (.inr hl)
      refine wpAny_mono ((hA a oe4 cls d (X.pn ++ pins) z4 ⟨_, d4⟩).run [] s5 _ H2 _ S5 (yes rfl a na)) (fun f s6 q => ?_) (fun _ _ z => False.elim z)
      have fin : ∀ {σ6 : L2.St} {H6 : Hp} {Q : Shared → Prop}, Inv (X.suite a ((a, oe4) :: (X.pn ++ pins))) [] σ6 H6 s6 → (∀ s7, Inv X pins (σ6.set i none) H6 s7 → Q s7) →
          wpAny (model X.prog X.w) X.A (do bindName X.env n .none; unbindBehindTheSuite X.env n q1) (fun _ s7 => Q s7) X.xe s6 := fun {σ6 H6 Q} S6 go => gone_ok (S6.unsuite ok) hN hi hl go
      cases f with
      | ret u =>
        obtain ⟨v6, σ6, H6, S6, r6, q6⟩ := q
        exact fin S6 fun s7 J7 => ⟨_, _, _, J7, r6, q6⟩
      | _ =>
        obtain ⟨σ6, H6, S6, q6⟩ := q
        exact fin S6 fun s7 J7 => ⟨_, _, J7, q6⟩
    | false =>
      obtain ⟨b2, e2, yes2, no2⟩ := no rfl
      show wpAny _ X.A (handleBy (.ref a) X.env [_]) _ _ _
      refine wpAny_handleBy_cons (codeAny_handlers_test ?_) (by intro q'; cases q')
      refine clause_name cB S3 ((PySem.W.exm_one (M := model X.prog X.w) J3.kIn LT e2).here ?_)
      cases b2 with
      | true =>
        refine codeAny_handlers_suite (HandSPX.lands_againZ fl fun h4 fl4 up4 => ?_)
        obtain ⟨oe4, _, g4, z4, d4⟩ := fl4.there
        have J4 : Inv X pins σ2 H2 { s2 with heap := h4 } := J.landed nb fl4.1 ((up.trans up3).trans up4) os ag
        refine wpAny_mono ((hB a oe4 cls d (X.pn ++ pins) z4 ⟨_, d4⟩).run [] _ _ H2 _ (J4.suite g4 d4 na offL offF) (yes2 rfl a na)) (fun f s6 q => ?_) (fun _ _ z => False.elim z)
        cases f with
        | ret u =>
          obtain ⟨v6, σ6, H6, S6, r6, q6⟩ := q
          exact ⟨_, _, _, S6.unsuite ok, r6, q6⟩
        | _ =>
          obtain ⟨σ6, H6, S6, q6⟩ := q
          exact ⟨_, _, S6.unsuite ok, q6⟩
      | false =>
        show wpAny _ X.A (handleBy (.ref a) X.env []) _ _ _
        refine wpAny_handleBy_nil ?_
        obtain ⟨_, _, _, ox, vx, T, oT, _, gx, zx, dx, x1, _⟩ := id fl
        unfold PySem.passOn
        refine wpAny_bind (wpAny_field gx dx x1 ?_)
        rw [if_neg (show ¬ ((Value.ref T == Value.none) = true) from by simp)]
        have out : wpAny (model X.prog X.w) X.A (setFlight (.ref a) X.env.frame) (fun _ s4 => wpAny (model X.prog X.w) X.A (throw (.ref a) : Sem Flow) (SP X pins D) X.xe s4) X.xe { s2 with heap := h3 } := by
          rw [hf]
          exact HandSPX.setFlight_upZ fl fun h4 t4 up4 => wpAny_throw (tk _ _ ⟨a, Bs, sI, pins, σ2, H2, cls, d, rfl, J, nb, (up.trans up3).trans up4, .inr (.inr (by rw [hs]; exact t4)), na, os, ag, no2 rfl⟩)
        first
          | exact wpAny_bind (wpAny_pure (wpAny_bind out))
          | exact wpAny_bind out
  · cases f with
    | next =>
      obtain ⟨σ2, H2, J, q⟩ := q
      exact wpAny_execs_nil ⟨σ2, H2, J.ofTry ok, q⟩
    | ret u =>
      obtain ⟨v, σ2, H2, J, r, q⟩ := q
      exact ⟨v, σ2, H2, J.ofTry ok, r, q⟩
    | _ =>
      obtain ⟨σ2, H2, J, q⟩ := q
      exact ⟨σ2, H2, J.ofTry ok, q⟩⟩
end
end DL

namespace DL
open PySem PySem.Spec PyProof.Rows L2
/-! ### enumerate(list, k) -/
def IteK (K : PySem.W.Frag) (a : Addr) (k : Int) : It :=
  ⟨fun i H => ∃ (xs : List V) (x : V), SqL K H a xs ∧ xs[i]? = some x,
   fun i H v H' => ∃ T x, v = .ref T ∧ H T = none ∧ H' = upd H T (.tup [.int (k + i), x]) ∧ ∀ xs, SqL K H a xs → xs[i]? = some x,
   fun i H => ∃ xs : List V, SqL K H a xs ∧ xs.length = i⟩
theorem turn_enumK {P : Program} {w : World} {K : PySem.W.Frag} {elts : List Expr} {kk : Nat} {tpos : Pos} (a e it : Addr) (k : Int) (hai : a ≠ it) :
    Turn P w K (.Tuple elts kk tpos) (IteK K a k) [e, it] e (fun i h => (∃ old, IsEnum h e it (k + i) old) ∧ h.IsListIter it a i ∧ e ≠ it ∧ a ≠ e) where
  mem := List.mem_cons_self
  obj := fun i h ⟨⟨_, t1⟩, ⟨o, t2, _, t3⟩, _, _⟩ b hb => by
    rcases (show b = e ∨ b = it by simpa using hb) with z | z
    · exact z ▸ ⟨_, t1, fun v q => nomatch q⟩
    · exact z ▸ ⟨o, t2, fun v q => by rw [t3] at q; cases q⟩
  keep := fun i h h2 ⟨⟨old, t1⟩, t2, t3, t4⟩ k2 => ⟨⟨old, k2 e (by simp) _ t1⟩, t2.at fun o q => k2 it (by simp) o q, t3, t4⟩
  item := fun X hP hw hK hc i pins s σ H E I hf ⟨⟨old, he⟩, hit, hne, hae⟩ ⟨xs, x, hq, hx⟩ => by
    subst hP hw hK
    obtain ⟨its, rv, p, hz⟩ := I.list hq
    obtain ⟨u, hu, ru⟩ := rv.get hx
    have hi : i < its.toArray.size := by simpa using (List.getElem?_eq_some_iff.mp hu).1
    have le : e < s.heap.objs.size := Heap.lt_size he
    have li : it < s.heap.objs.size := by
      obtain ⟨_, q, _⟩ := hit
      exact Heap.lt_size q
    refine wpAny_pyNext_enum_itemC (c := k + (i : Int)) (Draws.list (A := X.A.in1) (show X.A.in1.handled = none from I.ok.hd hc) it a hai its.toArray) he ⟨hit, p.isList⟩ hi hne (by simp [hne, Ne.symm hae]) fun y h2 tk hy ho hst hT hsz hk => ?_
    have ey : y = u := by
      have : its.toArray[i]? = some u := by simpa using hu
      rw [this] at hy
      cases hy
      rfl
    subst ey
    refine ⟨_, rfl, wpAny_letOwnedTupleGo_enum (s := { s with heap := h2, toks := tk + 1 }) ho fun h3 he3 sb => ?_⟩
    have hT3 : h3.get? s.heap.objs.size = some { cls := .type "tuple", data := .seq #[.int (k + i) tk, y] } := (sb.2 _ (Nat.ne_of_gt le)).trans hT
    have new : ObjOk X.prog X.w (upd H s.heap.objs.size (.tup [.int (k + i), x])) h3 s.heap.objs.size (.tup [.int (k + i), x]) := ⟨by show 2 ≤ sizeLine; decide, [.int (k + i) tk, y], .cons ⟨_, rfl⟩ (.cons ru .nil), ⟨_, hT3, rfl, _, rfl⟩⟩
    have I1 : Inv X pins σ (upd H s.heap.objs.size (.tup [.int (k + i), x])) { s with heap := h3, toks := tk + 1 } :=
      I.turnedNew (ch := [e, it]) (fun b ob hb q => (sb.2 b (fun z => hb (by simp [z]))).trans (hk b ob (fun z => hb (by simp [z])) (fun z => hb (by simp [z])) q)) hf (Nat.le_refl _) new
    refine ⟨.ref s.heap.objs.size, _, I1, rfl, ⟨_, x, rfl, I.hok.fresh (Nat.le_refl _), rfl, fun ys hy => by rw [I.list_inj hy hq]; exact hx⟩, ⟨⟨y, ?_⟩, hst.1.at fun o q => (sb.2 it (Ne.symm hne)).trans q, hne, hae⟩, fun b hb => ?_⟩
    · have e1 : k + ((i + 1 : Nat) : Int) = k + (i : Int) + 1 := by omega
      rw [e1]
      exact he3
    · have lb : b < s.heap.objs.size := by
        rcases (show b = e ∨ b = it by simpa using hb) with z | z
        · exact z ▸ le
        · exact z ▸ li
      rw [upd_ne (Nat.ne_of_lt lb)]
      exact (hf b hb).1
  done := fun X hP hw hK hc i pins s σ H E I hf ⟨⟨old, he⟩, hit, hne, hae⟩ ⟨xs, hq, hx⟩ => by
    subst hP hw hK
    obtain ⟨its, rv, p, hz⟩ := I.list hq
    obtain ⟨f0, f1, f2, f3, f4, f5⟩ := hf it (by simp)
    have hl := rv.length
    have hn : i = its.toArray.size := by simp; omega
    subst hn
    exact wpAny_pyNext_enum_endD (Draws.list (A := X.A.in1) (show X.A.in1.handled = none from I.ok.hd hc) it a hai its.toArray) he ⟨hit, p.isList⟩ fun h2 eb => ⟨rfl, I.turned (t' := s.toks) (fun b o hb q => eb b o hb q) f0 f1 f3 f4 f5⟩
  self := fun A i s Q E ⟨⟨_, t1⟩, _⟩ h => wpAny_pyIter_enum t1 h
def iEnumK (K : PySem.W.Frag) (ta : TA) : L2.TI := fun σ H R => ta σ H fun vs H1 => ∃ a k xs, vs = [.ref a, .int k] ∧ SqL K H1 a xs ∧ -(2 ^ 63) ≤ k ∧ k < 2 ^ 63 ∧ R (IteK K a k) H1
section
variable {X : Cx} {G : Gx}
theorem pi_enumK {e e2 : Expr} {ta : TA} {p pos tpos : Pos} {elts : List Expr} {kk : Nat} (hg : Gl X "enumerate") (hm : X.mg "enumerate" = none) (ha : PA X [e, e2] ta) (hs : starEach [e, e2] X.env = (false, eval e X.env) :: starEach [e2] X.env := by rfl) (hp : (backTo pos (starEach [e2] X.env)).any (·.1) = false := by rfl) :
    PI X (.Tuple elts kk tpos) (.Call (.Name "enumerate" p) [e, e2] [] pos) (iEnumK X.K ta) := ⟨fun pins s σ H R I h => by
  refine Call_ (ld_blt I hg hm boot_enumerate (PyProof.Rows.callWith_type1 (thn (ha.run pos pins s σ H _ I h) fun us s1 ⟨vs, H1, I1, r1, a, k, xs, ex, hq, k0, k1, q⟩ => ?_) hs hp))
  subst ex
  obtain ⟨u1, u2, rfl, ru1, ru2⟩ : ∃ u1 u2, us = [u1, u2] ∧ RelV (.ref a) u1 ∧ RelV (.int k) u2 := by
    cases r1 with
    | cons x y =>
      cases y with
      | cons z t =>
        cases t
        exact ⟨_, _, rfl, x, z⟩
  cases ru1
  obtain ⟨t, rfl⟩ := ru2
  obtain ⟨its, rv, p2, hz⟩ := I1.list hq
  have la : a < s1.heap.objs.size := by
    obtain ⟨_, q, _⟩ := p2.isList
    exact Heap.lt_size q
  refine enum_begins (begins_list a its.toArray) p2.isList k0 k1 fun h2 he ho hsz hk => wpAny_pyIter_enum he ?_
  have I2 : Inv X pins σ H1 { s1 with heap := h2 } := I1.kept (t' := s1.toks) hk
  refine ⟨s1.heap.objs.size + 1, [s1.heap.objs.size + 1, s1.heap.objs.size], _, _, H1, rfl, I2, turn_enumK a (s1.heap.objs.size + 1) s1.heap.objs.size k (Nat.ne_of_lt la), ⟨⟨.none, by simpa using he⟩, ⟨_, ho, rfl, rfl⟩, Nat.succ_ne_self _, Nat.ne_of_lt (Nat.lt_succ_of_lt la)⟩, fun b hb => ?_, q⟩
  have big : s1.heap.objs.size ≤ b := by
    rcases (show b = s1.heap.objs.size + 1 ∨ b = s1.heap.objs.size by simpa using hb) with z | z
    · rw [z]; exact Nat.le_succ _
    · rw [z]; exact Nat.le_refl _
  exact I1.fpOk big (I1.hok.fresh big)⟩
@[simp] def gEnumK : List Dat → Sto → Res (List Dat) := fun ds s => match ds with
  | [.list xs, .int k] => if -(2 ^ 62) ≤ k ∧ k < 2 ^ 62 then .ok (pairs (ups k xs.length) xs) s else .bad
  | _ => .bad
theorem wk_enumK {w : Wd} {H : Hp} {a : Addr} {k : Int} {xs : List V} {ds : List Dat} (ha : Fz w H a = some (.lst xs)) (r : RpL G.K w.as (Fz w H) ds xs) : Wk G w H (IteK G.K a k) (pairs (ups k ds.length) ds) := by
  have at_ : ∀ {w' H'}, FExt w H w' H' → SqL G.K H' a xs := fun {w' H'} x => .inl (.inl (Fz_sub _ _ (x.same _ _ ha)))
  have l1 := r.length
  refine ⟨fun w' H' x i hi => ?_, fun w' H' x i hi => ⟨xs, at_ x, ?_⟩, fun w' e s σ H' H'' i v I x hi y => ?_⟩
  · rw [pairs_len, ups_len] at hi
    exact ⟨xs, xs[i], at_ x, List.getElem?_eq_getElem (by omega)⟩
  · rw [pairs_len, ups_len] at hi
    omega
  · obtain ⟨T, y1, rfl, hT, rfl, f2⟩ := y
    obtain ⟨d2, g2, k2⟩ := r.get (f2 xs (at_ x))
    rw [pairs_len, ups_len] at hi
    obtain ⟨J, E, R⟩ := pair_new I hT (rp_i (i := k + (i : Int))) (x.rp k2)
    refine ⟨J, E, _, pairs_get ?_ g2, R⟩
    unfold ups
    rw [List.getElem?_map, List.getElem?_range (by omega)]
    simp
theorem di_enumK {e e2 : Expr} {p pos tpos : Pos} {elts : List Expr} {kk : Nat} {Fs : FA} (hK : X.K = G.K) (hm : X.mg "enumerate" = none) (ha : PA X [e, e2] (tA G Fs)) (hg : Gl X "enumerate" := by rfl) (hs : starEach [e, e2] X.env = (false, eval e X.env) :: starEach [e2] X.env := by rfl)
    (hp : (backTo pos (starEach [e2] X.env)).any (·.1) = false := by rfl) : PI X (.Tuple elts kk tpos) (.Call (.Name "enumerate" p) [e, e2] [] pos) (tI G (fItA gEnumK Fs)) :=
  PI_imp (pi_enumK hg hm ha hs hp) fun σ H R ⟨w, e, s, I, h⟩ => by
    rw [hK]
    refine ⟨w, e, s, I, holds_imp (holds_bind h) fun ds s1 h1 w1 vs H1 I1 x1 r1 => ?_⟩
    unfold gEnumK at h1
    split at h1
    · rename_i xs k
      split at h1
      · rename_i c
        obtain ⟨v, v2, rfl, k1, k2⟩ := rpl2 r1
        obtain ⟨p, ys, rfl, hp, rx⟩ := rp_list k1
        rw [rp_int k2]
        exact ⟨p, k, ys, rfl, .inl (.inl (Fz_sub _ _ hp)), by have := c.1; omega, by have := c.2; omega, h1 w1 H1 _ I1 x1 (wk_enumK hp rx)⟩
      · exact h1.elim
    · exact h1.elim

/-! ### try -/
theorem IE.wish {w : Wd} {e : Lcs} {s : Sto} {σ : L2.St} {H : Hp} (I : IE G w e s σ H) (W : WX) : IE { G with W := W } w e s σ H := ⟨I.len, I.slot, I.own, I.inj, I.slen, I.cells, I.nd, I.dis, I.beg, I.o0, I.there, I.keep, I.cfresh⟩
theorem IE.unwish {w : Wd} {e : Lcs} {s : Sto} {σ : L2.St} {H : Hp} {W : WX} (I : IE { G with W := W } w e s σ H) : IE G w e s σ H := ⟨I.len, I.slot, I.own, I.inj, I.slen, I.cells, I.nd, I.dis, I.beg, I.o0, I.there, I.keep, I.cfresh⟩
/-- the clause «except A» catches the classes with these numbers -/
def CatchK (K : PySem.W.Frag) (xc : Xc) (A : Value) (ids : List Nat) : Prop := ∀ id C fns, xc.ex id = some (C, fns) → PySem.W.exmOne K (.ref C) A = some (ids.contains id)
abbrev Catches (X : Cx) (G : Gx) (A : Value) (ids : List Nat) : Prop := CatchK X.K G.xc A ids
@[simp] def exId (x : Dat) : Nat := match x with
  | .tuple (.int i :: _) => i.toNat
  | _ => 0
@[simp] def exFd (x : Dat) (j : Nat) : Option Dat := match x with
  | .tuple (_ :: fds) => fds[j]?
  | _ => none
/-- try: F / except A: F2 -/
def sTry (ids : List Nat) (F F2 : FS) : FS := fun e s => match F e s with
  | .ex x e1 s1 => if ids.contains (exId x) then F2 e1 s1 else .ex x e1 s1
  | r => r
theorem ds_try {A : Value} {ids : List Nat} {x : Str} {body suite : List Stmt} {b0 : Stmt} {np pos pos2 : Pos} {F F2 : FS} (hs : X.stack = X.env :: X.outer) (hf : X.env.frame = some X.env.locals) (hc : Names X x A) (ct : Catches X G A ids) (tk : Takes X G.W)
    (hb : ∀ (W : WX) (pn : List (Addr × Obj)) (xe : Value → Shared → Prop), Takes (X.tr pn xe) W → PassesOwn (model X.prog X.w) X.A X.env xe → PSs (X.tr pn xe) body (tS { G with W := W } F))
    (hsu : ∀ (a : Addr) (oe : Obj) (cls : Value) (d : Option Addr) (pn : List (Addr × Obj)), Zc cls d oe → (∃ vs, oe.data = .fields vs) → PSs (X.suite a ((a, oe) :: pn)) (b0 :: suite) (tS G F2)) :
    PS X (.Try body [.ExceptHandler (some (.Name x np)) none (b0 :: suite) pos2] [] [] pos) (tS G (sTry ids F F2)) :=
  PS_imp (ps_try_only (tb := fun W => tS { G with W := W } F) (ts := fun _ _ _ => tS G F2) hs hf hc tk hb hsu) fun D σ H ⟨w, e, s, I, h⟩ => by
    refine ⟨w, e, s, I.wish _, ?_⟩
    unfold sTry at h
    cases q : F e s with
    | bad => rw [q] at h; exact h
    | nx e1 s1 => rw [q] at h; exact fun w' σ' H' J x => h w' σ' H' J.unwish x
    | bk e1 s1 => rw [q] at h; exact fun w' σ' H' J x => h w' σ' H' J.unwish x
    | ct e1 s1 => rw [q] at h; exact fun w' σ' H' J x => h w' σ' H' J.unwish x
    | rt d s1 => rw [q] at h; exact fun w' e' σ' v H' J x => h w' e' σ' v H' J.unwish x
    | ex y e1 s1 =>
      rw [q] at h
      simp only at h
      intro w' σ' H' cls d J x r
      obtain ⟨id, fds, C, fns, dd, vs, r1, r2, r3, r4, r5, r6, r7⟩ := id r
      subst r3
      have hid : exId y = id := by rw [r1]; simp
      rw [hid] at h
      refine ⟨ids.contains id, ct id C fns r2, fun e1' a ha => ?_, fun e1' => ?_⟩
      · rw [if_pos e1'] at h
        exact ⟨w', _, s1, J.unwish, kS_ext x h⟩
      · rw [if_neg (by rw [e1']; decide)] at h
        exact h w' σ' H' _ d J.unwish x r
/-- e.f in the suite of «except C as e» -/
def tByEx (C : Addr) (f : Str) (a : Addr) (cls : Value) (d : Option Addr) (te : TE) : TE := fun σ H Q => te σ H fun x H1 => x = .ref a ∧ cls = .ref C ∧ ∃ (dd : Addr) (fs : List (Str × V)) (v : V), d = some dd ∧ H1 dd = some (.xd fs) ∧ fs.lookup f = some v ∧ Q v H1
theorem pe_byEx {C B fI : Addr} {f : Str} {a : Addr} {oe : Obj} {cls : Value} {d : Option Addr} {pn : List (Addr × Obj)} {e : Expr} {te : TE} {pos : Pos} (T : PySem.ExF.ExC X.K C B fI) (no : PySem.W.findIn X.K (.ref C) f = some none) (hz : Zc cls d oe) (hf : ∃ vs, oe.data = .fields vs) (he : PE (X.suite a ((a, oe) :: pn)) e te)
    (hb : attributeBase e f X.env (eval e X.env) = eval e X.env := by rfl) : PE (X.suite a ((a, oe) :: pn)) (.Attribute e f pos) (tByEx C f a cls d te) := ⟨fun pins s σ H Q I h => by
  refine attr_of hb (thn (he.run pins s σ H _ I h) fun u s1 ⟨x, H1, I1, rx, ex, ec, dd, fs, v, ed, ea, l, q⟩ => ?_)
  subst ex ec ed
  cases (show u = Value.ref a from rx)
  obtain ⟨ha, _⟩ := I1.pin (a, oe) (List.mem_append_left _ List.mem_cons_self)
  obtain ⟨vs, hd⟩ := hf
  obtain ⟨mA, hns, hr⟩ := (show ObjOk X.prog X.w H1 s1.heap dd (.xd fs) from I1.hok dd _ ea)
  obtain ⟨od, ho, hl⟩ := lookIn_ns hns
  obtain ⟨u2, hu, ru⟩ := RelO.some_of (v := v) (o := mA f) (by rw [← l]; exact hr f)
  have at_ : PySem.W.InstAt s1.heap a oe C (some od) := ⟨ha, hz.1, by unfold PySem.W.notCls; rw [hd] <;> rfl, by rw [hz.2]; exact ho⟩
  exact HandSPX.exc_get I1.kIn at_ T.ga T.gg T.exC (PySem.W.findObj_own T.hdC no rfl (by rw [hl, hu])) (handed_of ru) ⟨v, H1, I1.tok _, ru, q⟩⟩
/-- try: F / except A as n: return n.f1, n.f2 / except B: F2 -/
def sTryAs (i id0 : Nat) (j1 j2 : Nat) (ids : List Nat) (F F2 : FS) : FS := fun e s => match F e s with
  | .ex x e1 s1 => if exId x = id0 then (match exFd x j1, exFd x j2 with
    | some d1, some d2 => if i < e1.length then .rt (.tuple [d1, d2]) s1 else .bad
    | _, _ => .bad) else if ids.contains (exId x) then F2 e1 s1 else .ex x e1 s1
  | r => r
theorem ds_tryAs (i : Nat) {C B fI : Addr} {fns : List Str} {f1 f2 n : Str} {Bv : Value} {id0 j1 j2 : Nat} {ids : List Nat} {xA xB : Str} {body sB : List Stmt} {b0 : Stmt} {pA pB pos q1 q2 r1 r2 r3 r4 r5 r6 : Pos} {kt : Nat} {F F2 : FS} (hs : X.stack = X.env :: X.outer) (hf : X.env.frame = some X.env.locals) (hN : X.N.Nodup)
    (hi : X.N[i]? = some n) (hl : X.env.kindOf n = some .local) (cA : Names X xA (.ref C)) (cB : Names X xB Bv) (ctA : Catches X G (.ref C) [id0]) (ctB : Catches X G Bv ids) (tk : Takes X G.W) (T : PySem.ExF.ExC X.K C B fI) (hx : G.xc.ex id0 = some (C, fns)) (nd : fns.Nodup) (hj1 : fns[j1]? = some f1) (hj2 : fns[j2]? = some f2)
    (no1 : PySem.W.findIn X.K (.ref C) f1 = some none) (no2 : PySem.W.findIn X.K (.ref C) f2 = some none)
    (hb : ∀ (W : WX) (pn : List (Addr × Obj)) (xe : Value → Shared → Prop), Takes (X.tr pn xe) W → PassesOwn (model X.prog X.w) X.A X.env xe → PSs (X.tr pn xe) body (tS { G with W := W } F))
    (hsu : ∀ (a : Addr) (oe : Obj) (cls : Value) (d : Option Addr) (pn : List (Addr × Obj)), Zc cls d oe → (∃ vs, oe.data = .fields vs) → PSs (X.suite a ((a, oe) :: pn)) (b0 :: sB) (tS G F2))
    (hvis : Vis X.env.scope n := by first | exact Or.inl rfl | exact Or.inr (Or.inl rfl) | exact Or.inr (Or.inr rfl)) (hd1 : (n == ("__debug__" : Str)) = false := by decide) (hd2 : (n == ("__classdict__" : Str)) = false := by decide)
    (ha1 : attributeBase (.Name n r1) f1 X.env (eval (.Name n r1) X.env) = eval (.Name n r1) X.env := by rfl) (ha2 : attributeBase (.Name n r3) f2 X.env (eval (.Name n r3) X.env) = eval (.Name n r3) X.env := by rfl)
    (hst : starEach [.Attribute (.Name n r1) f1 r2, .Attribute (.Name n r3) f2 r4] X.env = (false, eval (.Attribute (.Name n r1) f1 r2) X.env) :: starEach [.Attribute (.Name n r3) f2 r4] X.env := by rfl)
    (hst2 : starEach [.Attribute (.Name n r3) f2 r4] X.env = (false, eval (.Attribute (.Name n r3) f2 r4) X.env) :: starEach [] X.env := by rfl) :
    PS X (.Try body [.ExceptHandler (some (.Name xA pA)) (some n) [.Return (some (.Tuple [.Attribute (.Name n r1) f1 r2, .Attribute (.Name n r3) f2 r4] kt r5)) r6] q1, .ExceptHandler (some (.Name xB pB)) none (b0 :: sB) q2] [] [] pos) (tS G (sTryAs i id0 j1 j2 ids F F2)) :=
  PS_imp (ps_try_two (tb := fun W => tS { G with W := W } F) (tA := fun a cls d => tRet (tTup (tCons (tByEx C f1 a cls d (tVar i)) (tCons (tByEx C f2 a cls d (tVar i)) tNil)))) (tB := fun _ _ _ => tS G F2) hs hf hN hi hl cA cB tk hb
    (fun a oe cls d pn z f => pss_one (ps_ret (pe_tup (pa_cons (pe_byEx T no1 z f (pe_var (i := i) hi hvis hd1 hd2) ha1) (pa_cons (pe_byEx T no2 z f (pe_var (i := i) hi hvis hd1 hd2) ha2) pa_nil hst2) hst)))) hsu) fun D σ H ⟨w, e, s, I, h⟩ => by
    refine ⟨w, e, s, I.wish _, ?_⟩
    unfold sTryAs at h
    cases q : F e s with
    | bad => rw [q] at h; exact h
    | nx e1 s1 => rw [q] at h; exact fun w' σ' H' J x => h w' σ' H' J.unwish x
    | bk e1 s1 => rw [q] at h; exact fun w' σ' H' J x => h w' σ' H' J.unwish x
    | ct e1 s1 => rw [q] at h; exact fun w' σ' H' J x => h w' σ' H' J.unwish x
    | rt d s1 => rw [q] at h; exact fun w' e' σ' v H' J x => h w' e' σ' v H' J.unwish x
    | ex y e1 s1 =>
      rw [q] at h
      simp only at h
      intro w' σ' H' cls d J x r
      obtain ⟨id, fds, C2, fns2, dd, vs, t1, t2, t3, t4, t5, t6, t7⟩ := id r
      subst t3
      have hid : exId y = id := by rw [t1]; simp
      rw [hid] at h
      refine ⟨[id0].contains id, ctA id C2 fns2 t2, fun e1' a ha => ?_, fun e1' => ⟨ids.contains id, ctB id C2 fns2 t2, fun e2 a ha => ?_, fun e2 => ?_⟩⟩
      · have ei : id = id0 := by simpa using e1'
        rw [if_pos ei] at h
        subst ei
        rw [hx] at t2
        cases t2
        subst t1
        simp only [exFd] at h
        split at h
        · rename_i d1 d2 k1 k2
          have hie : i < e1.length := by
            by_cases z : i < e1.length
            · exact z
            · rw [if_neg z] at h
              exact h.elim
          rw [if_pos hie] at h
          obtain ⟨v1, l1, m1⟩ := t7.get' k1
          obtain ⟨v2, l2, m2⟩ := t7.get' k2
          have hdd : H' dd = some (.xd (fns.zip vs)) := (Fz_get t5).1
          have hi' : i < σ'.length := by
            rw [← J.len]
            exact hie
          have look : (σ'.set i (some (V.ref a)))[i]? = some (some (V.ref a)) := List.getElem?_set_self hi'
          refine ⟨_, look, rfl, rfl, dd, _, v1, t4, hdd, look_zip nd hj1 l1, _, look, rfl, rfl, dd, _, v2, t4, hdd, look_zip nd hj2 l2, by show 2 ≤ sizeLine; rw [sizeLine_eq]; omega, fun p hp => ?_⟩
          exact new_tuple (Q := D.rt) J.unwish (RpL.cons m1 (RpL.one m2)) (fun w2 v H2 J2 x2 r2 => h w2 _ _ v H2 J2 (x.trans x2.f) r2) hp
        · exact h.elim
      · have ei : ¬ id = id0 := by
          intro z
          simp [z] at e1'
        rw [if_neg ei, if_pos e2] at h
        exact ⟨w', _, s1, J.unwish, kS_ext x h⟩
      · have ei : ¬ id = id0 := by
          intro z
          simp [z] at e1'
        rw [if_neg ei, if_neg (by rw [e2]; decide)] at h
        exact h w' σ' H' _ d J.unwish x r
end
end DL

namespace DL
open PySem PySem.Spec PyProof.Rows L2
section
variable {X : Cx} {G : Gx}
/-! ### s.split(t) -/
theorem rpl_strs {K as F} : ∀ zs : List Str, RpL K as F (zs.map PyData.str) (zs.map V.str)
  | [] => RpL.nil
  | z :: zs => RpL.cons rp_s (rpl_strs zs)
@[simp] def fSplit (Fo Fa : FE) : FE := fun e s => (Fo e s).bind fun o s1 => match o with
  | .str a => (Fa e s1).bind fun t s2 => match t with
    | .str b => if (b.length == 0) = false ∧ a.length + 2 ≤ 16777216 then .ok (.list ((Txt.split a b).map PyData.str)) s2 else .bad
    | _ => .bad
  | _ => .bad
theorem de_split {o a : Expr} {apos pos : Pos} {Fo Fa : FE} (ho : PE X o (tE G Fo)) (ha : PE X a (tE G Fa)) (h1 : starEach [a] X.env = [(false, eval a X.env)] := by rfl) (h2 : attributeBase o "split" X.env (eval o X.env) = eval o X.env := by rfl) (h3 : (apos.endLine == pos.line) = true := by rfl) :
    PE X (.Call (.Attribute o "split" apos) [a] [] pos) (tE G (fSplit Fo Fa)) := PE_imp (pe_split ho ha h1 h2 h3) fun σ H Q ⟨w, e, s, I, h⟩ => by
  refine ⟨w, e, s, I, holds_imp (holds_bind h) fun x s1 h1 w1 xv H1 I1 x1 r1 => ?_⟩
  split at h1
  · rename_i z
    refine ⟨⟨z, rp_str r1⟩, w1, e, s1, I1, holds_imp (holds_bind h1) fun y s2 h2 w2 yv H2 I2 x2 r2 => ?_⟩
    split at h2
    · rename_i b
      split at h2
      · rename_i c
        exact ⟨z, b, rp_str r1, by rw [rp_str r2], c.1, by rw [sizeLine_eq]; exact c.2, fun p hp => new_list I2 (rpl_strs _) (kE_ext (x1.trans x2) h2) hp⟩
      · exact h2.elim
    · exact h2.elim
  · exact h1.elim
/-! ### int(s) -/
@[simp] def gInt2 : List Dat → Sto → Res Dat := fun ds s => match ds with
  | [.str a] => match PySem.intText? a with
    | some n => if a.length ≤ 640 then .ok (.int n) s else .bad
    | none => .bad
  | _ => gInt ds s
theorem cdInt2 : CallD G (fun xs H Q => ((∃ i, xs = [V.int i] ∧ Q (.int i) H) ∨ ∃ k, xs = [V.bl k] ∧ Q (.int (if k then 1 else 0)) H) ∨ ∃ a n, xs = [.str a] ∧ PySem.intText? a = some n ∧ a.length ≤ 640 ∧ Q (.int n) H) gInt2 := by
  intro w e s σ H xs ds Q I r h
  unfold gInt2 at h
  split at h
  · split at h
    · rename_i n hn
      split at h
      · rename_i c
        obtain ⟨v, rfl, r1⟩ := rpl1 r
        exact .inr ⟨_, n, by rw [rp_str r1], hn, c, flat_ok I h rp_i⟩
      · exact h.elim
    · exact h.elim
  · exact .inl (cdInt w e s σ H xs ds Q I r h)
theorem de_intOf2 {p pos : Pos} {a : Expr} {es : List Expr} {Fs : FA} (hm : X.mg "int" = none) (ha : PA X (a :: es) (tA G Fs)) (hgl : Gl X "int" := by rfl) (he : starEach (a :: es) X.env = (false, eval a X.env) :: starEach es X.env := by rfl) (hpl : (backTo pos (starEach es X.env)).any (·.1) = false := by rfl) :
    PE X (.Call (.Name "int" p) (a :: es) [] pos) (tE G (fCall gInt2 Fs)) := de_callTy (CallR.or call_int1 call_int_str) cdInt2 hm ha (hgl := hgl) (he := he) (hpl := hpl)
/-! ### x += e, ints or texts -/
def ipAdd : TIp := fun x y H Q => ipI (fun i j => i + j) x y H Q ∨ ∃ i j, x = .str i ∧ y = .str j ∧ i.length + j.length ≤ sizeLine ∧ Q (.str (i ++ j)) H
theorem ip_addS : PIp X .Add ipAdd := fun pins s σ H x y v u Q I rx ry h => by
  rcases h with h | h
  · exact ip_add pins s σ H x y v u Q I rx ry h
  · exact iop_add_str pins s σ H x y v u Q I rx ry h
@[simp] def sAugAdd (i : Nat) (Fa : FE) : FS := fun e s => match e[i]? with
  | some (.fz a) => (Fa e s).flo e fun b s1 => match a, b with
    | .int m, .int n => .nx (e.set i (.fz (.int (m + n)))) s1
    | .str m, .str n => if m.length + n.length ≤ 16777216 then .nx (e.set i (.fz (.str (m ++ n)))) s1 else .bad
    | _, _ => .bad
  | _ => .bad
theorem ds_augAdd2 (i : Nat) {x : Str} {a : Expr} {pos pos' : Pos} {Fa : FE} (hN : X.N.Nodup) (ha : PE X a (tE G Fa)) (hi : X.N[i]? = some x := by rfl) (hx : Loc X.env.scope x := by first | exact Or.inl rfl | exact Or.inr rfl)
    (hf : X.fn x = true ∨ X.env.scope.names.lookup x = some .local := by first | exact .inl rfl | exact .inr rfl) : PS X (.AugAssign (.Name x pos') .Add a pos) (tS G (sAugAdd i Fa)) := PS_imp (ps_aug hN hi hx ha ip_addS hf) fun D σ H ⟨w, e, s, I, h⟩ => by
  unfold sAugAdd at h
  split at h
  · rename_i m hm
    obtain ⟨v, h1, h2⟩ := I.slot i _ hm
    have hi' : i < e.length := (List.getElem?_eq_some_iff.mp hm).1
    refine ⟨v, h1, w, e, s, I, holds_imp (flo_holds h) fun d s1 h3 w1 y H1 I1 x1 r1 => ?_⟩
    split at h3
    · rename_i m n
      exact .inl ⟨m, n, rp_int h2, rp_int r1, h3 w1 _ H1 (I1.set hi' rp_i) x1.f⟩
    · rename_i m n
      split at h3
      · rename_i c
        exact .inr ⟨m, n, rp_str h2, rp_str r1, by rw [sizeLine_eq]; exact c, h3 w1 _ H1 (I1.set hi' rp_s) x1.f⟩
      · exact h3.elim
    · exact h3.elim
  · exact h.elim
theorem ds_augSub (i : Nat) {x : Str} {a : Expr} {pos pos' : Pos} {Fa : FE} (hN : X.N.Nodup) (ha : PE X a (tE G Fa)) (hi : X.N[i]? = some x := by rfl) (hx : Loc X.env.scope x := by first | exact Or.inl rfl | exact Or.inr rfl)
    (hf : X.fn x = true ∨ X.env.scope.names.lookup x = some .local := by first | exact .inl rfl | exact .inr rfl) : PS X (.AugAssign (.Name x pos') .Sub a pos) (tS G (sAug i (· - ·) Fa)) := ds_aug i ip_sub hN ha hi hx hf
/-! ### a, b, c = x, y, z -/
@[simp] def sPar3 (i j l : Nat) (Fs : FA) : FS := fun e s => (Fs e s).flo e fun ds s1 => match ds with
  | [d1, d2, d3] => if i < e.length ∧ j < e.length ∧ l < e.length then .nx (((e.set i (.fz d1)).set j (.fz d2)).set l (.fz d3)) s1 else .bad
  | _ => .bad
theorem rpl3 {K as F} {d d2 d3 : Dat} {vs : List V} (r : RpL K as F [d, d2, d3] vs) : ∃ v v2 v3, vs = [v, v2, v3] ∧ Rp K as F d v ∧ Rp K as F d2 v2 ∧ Rp K as F d3 v3 := by
  cases vs with
  | nil => simp [RpL] at r
  | cons v t =>
    simp only [RpL] at r
    obtain ⟨v2, v3, rfl, r2, r3⟩ := rpl2 r.2
    exact ⟨v, v2, v3, rfl, r.1, r2, r3⟩
theorem ds_par3 (i j l : Nat) {x y z : Str} {a b c : Expr} {Fs : FA} {px py pz pt pos : Pos} {kt k2 pt2} (hc : X.calm = true) (hN : X.N.Nodup) (ha : PA X [a, b, c] (tA G Fs)) (hi : X.N[i]? = some x := by rfl) (hj : X.N[j]? = some y := by rfl) (hl : X.N[l]? = some z := by rfl) (hij : i ≠ j := by decide) (hil : i ≠ l := by decide) (hjl : j ≠ l := by decide)
    (hx : X.env.scope.names.lookup x = some .local := by rfl) (hy : X.env.scope.names.lookup y = some .local := by rfl) (hz : X.env.scope.names.lookup z = some .local := by rfl)
    (hw : swappedStores [.Tuple [.Name x px, .Name y py, .Name z pz] kt pt] (.Tuple [a, b, c] k2 pt2) X.env = pure (some [x, y, z]) := by rfl)
    (hs : swapsWithSole [.Tuple [.Name x px, .Name y py, .Name z pz] kt pt] (.Tuple [a, b, c] k2 pt2) pos.line X.env = pure false := by rfl) :
    PS X (.Assign [.Tuple [.Name x px, .Name y py, .Name z pz] kt pt] (.Tuple [a, b, c] k2 pt2) pos) (tS G (sPar3 i j l Fs)) := PS_imp (ps_par3 hc hN hi hj hl hij hil hjl hx hy hz ha hw hs) fun D σ H ⟨w, e, s, I, h⟩ => by
  refine ⟨w, e, s, I, holds_imp (flo_holds h) fun ds s1 h1 w1 vs H1 I1 x1 r1 => ?_⟩
  split at h1
  · rename_i d1 d2 d3
    split at h1
    · rename_i c
      obtain ⟨v1, v2, v3, rfl, k1, k2, k3⟩ := rpl3 r1
      exact ⟨v1, v2, v3, rfl, h1 w1 _ H1 (((I1.set c.1 k1).set (by rw [List.length_set]; exact c.2.1) k2).set (by rw [List.length_set, List.length_set]; exact c.2.2) k3) x1.f⟩
    · exact h1.elim
  · exact h1.elim
/-! ### a comprehension over a list that is a cell: what it reads must not change it -/
@[simp] def lcC (n : Nat) (F : FG) (C : FT) (Fe : FE) (e : Lcs) : Nat → Nat → Sto → Res (List Dat)
  | 0, i, s => match s[n]? with
    | some (.ls ds) => if ds.length = i then .ok [] s else .bad
    | _ => .bad
  | m + 1, i, s => match s[n]? with
    | some (.ls ds) => match ds[i]? with
      | some d => (F d e s).noex.bind fun e1 s1 => (C e1 s1).noex.bind fun b s2 => if b then (Fe e1 s2).noex.bind fun y s3 => (lcC n F C Fe e m (i + 1) s3).bind fun ys s4 => .ok (y :: ys) s4 else lcC n F C Fe e m (i + 1) s2
      | none => .bad
    | _ => .bad
@[simp] def fLcC (Fa : FE) (F : FG) (C : FT) (Fe : FE) (vs : List Nat) : FE := fun e s => (Fa e s).bind fun o s1 => match o with
  | .dict [(.int n, .none)] => match s1[n.toNat]? with
    | some (.ls ds) => if decide (ds.length < sizeLine) then (lcC n.toNat F C Fe (wipeE e vs) ds.length 0 s1).bind fun ys s2 => .ok (.list ys) s2 else .bad
    | _ => .bad
  | _ => .bad
theorem lcC_nox {n : Nat} {F : FG} {C : FT} {Fe : FE} {e : Lcs} : ∀ (m i : Nat) (s : Sto), NoX (lcC n F C Fe e m i s)
  | 0, i, s => by
    unfold lcC
    split
    · split
      · exact nox_ok
      · exact fun _ _ h => by cases h
    · exact fun _ _ h => by cases h
  | m + 1, i, s => by
    unfold lcC
    split
    · split
      · exact nox_bind (nox_noex _) fun e1 s1 => nox_bind (nox_noex _) fun b s2 => nox_ite (nox_bind (nox_noex _) fun y s3 => nox_bind (lcC_nox m _ s3) fun ys s4 => nox_ok) (lcC_nox m _ s2)
      · exact fun _ _ h => by cases h
    · exact fun _ _ h => by cases h
theorem lcC_of {Fa : FE} {F : FG} {C : FT} {Fe : FE} {vs is : List Nat} (his : ∀ i ∈ is, i ∈ vs) {σ : L2.St} {H : Hp} {Q : VK} (h : tE G (fLcC Fa F C Fe vs) σ H Q) : tLc (iList G.K (tE G Fa)) (tG G is F) (tT G C) (tE G Fe) vs σ H Q := by
  obtain ⟨w, e, s, I, h⟩ := h
  refine ⟨w, e, s, I, holds_imp (holds_bind h) fun ov s1 h1 w1 x H1 I1 x1 r1 => ?_⟩
  split at h1
  · rename_i nn
    split at h1
    · rename_i ds0 hds0
      have hz : ds0.length < sizeLine := by
        by_cases q : ds0.length < sizeLine
        · exact q
        · rw [if_neg (by simpa using q)] at h1
          exact h1.elim
      rw [if_pos (by simpa using hz)] at h1
      have r1' : ∃ a, x = .ref a ∧ w1.as[nn.toNat]? = some a := by simpa [Rp] using r1
      obtain ⟨ca, rfl, hca⟩ := r1'
      obtain ⟨a', vs0, e1, e2, e3⟩ := I1.cellL hds0
      rw [hca] at e1; cases e1
      refine ⟨ca, rfl, ⟨vs0, .inl (.inl e2)⟩, fun D hD => ?_⟩
      have lone : Lone (wipeE e vs) (wipe σ vs) D := (I1.wipe vs).lone hD
      have d0 : G.H0 D = none := I1.fresh0 hD
      have dn : ¬ w1.ow D := I1.freshO hD
      have I2 : IE G (w1.plus D) (wipeE e vs) s1 (wipe σ vs) (upd H1 D (.lst [])) := (I1.wipe vs).plus hD
      refine ⟨fun i m H2 => ∃ w2 s2 acc avs, IE G w2 (wipeE e vs) s2 (wipe σ vs) H2 ∧ FExt w1 H1 w2 H2 ∧ w2.ow = (w1.plus D).ow ∧ (∀ a, w1.ow a → H2 a = H1 a) ∧ H2 D = some (.lst avs) ∧ RpL G.K w2.as (Fz w2 H2) acc avs ∧ acc.length ≤ i ∧ i + m = ds0.length ∧
          (lcC nn.toNat F C Fe (wipeE e vs) m i s2).holds (fun ys s3 => kE G w1 e σ H1 Q (.list (acc ++ ys)) s3) (kX G w1 e σ H1),
        ⟨ds0.length, w1.plus D, s1, [], [], I2, plus_f hD, rfl, fun a ha => upd_ne fun (z : a = D) => dn (by rw [← z]; exact ha), upd_same, RpL.nil, Nat.le_refl _, by omega, ?_⟩, ?_⟩
      · exact holds_imp (holds_bind h1) fun ys s2 h2 => kE_ext x1 h2
      rintro i m H2 ⟨w2, s2, acc, avs, J2, x2, o2, k2, hD2, ra, la, hm, q⟩
      have owD : w2.ow D := by rw [o2]; exact .inr rfl
      have ca2 : w2.as[nn.toNat]? = some ca := x2.beg.get hca
      cases m with
      | succ m =>
        unfold lcC at q
        split at q
        · rename_i ds hds
          split at q
          · rename_i d hd
            obtain ⟨a', vs2, t1, t2, t3⟩ := J2.cellL hds
            rw [ca2] at t1; cases t1
            obtain ⟨v, g1, g2⟩ := t3.get' hd
            refine .inr ⟨⟨vs2, v, .inl (.inl t2), g1⟩, fun H3 => ∃ w3 s3 acc avs, IE G w3 (wipeE e vs) s3 (wipe σ vs) H3 ∧ FExt w1 H1 w3 H3 ∧ w3.ow = (w1.plus D).ow ∧ (∀ a, w1.ow a → H3 a = H1 a) ∧ H3 D = some (.lst avs) ∧ RpL G.K w3.as (Fz w3 H3) acc avs ∧ acc.length ≤ i + 1 ∧ (i + 1) + m = ds0.length ∧
                (lcC nn.toNat F C Fe (wipeE e vs) m (i + 1) s3).holds (fun ys s4 => kE G w1 e σ H1 Q (.list (acc ++ ys)) s4) (kX G w1 e σ H1), fun H3 k => ⟨m, by omega, k⟩, fun v2 H3 y => ?_⟩
            obtain ⟨rfl, y⟩ := y
            have ev := y vs2 (.inl (.inl t2))
            rw [g1] at ev
            cases ev
            have on : ∀ {w5 : Wd} {H5 : Hp}, EExt w2 H3 w5 H5 → FExt w1 H1 w5 H5 ∧ w5.ow = (w1.plus D).ow ∧ (∀ a, w1.ow a → H5 a = H1 a) ∧ H5 D = some (.lst avs) ∧ RpL G.K w5.as (Fz w5 H5) acc avs := fun {w5 H5} x =>
              ⟨x2.trans x.f, x.ow.trans o2, fun a ha => (x.own a (by rw [o2]; exact .inl ha)).trans (k2 a ha), (x.own D owD).trans hD2, x.rpl ra⟩
            refine ⟨w2, wipeE e vs, s2, d, J2, g2, holds_imp (holds_noex (holds_bind q) _) fun e4 s4 h4 w4 σ4 H4 I4 x4 a4 l4 => ?_⟩
            have hw : wipe σ4 vs = wipe σ vs := wipe_back his a4 l4
            refine ⟨hw, w4, e4, s4, I4, holds_imp (holds_noex (holds_bind h4) _) fun b s5 h5 w5 H5 I5 x5 => ?_⟩
            have x25 := x4.trans x5
            cases b with
            | true =>
              simp only [if_true] at h5
              refine iteT ⟨w5, e4, s5, I5, holds_imp (holds_noex (holds_bind h5) _) fun y s6 h6 w6 yv H6 I6 x6 r6 => ?_⟩
              have x26 := x25.trans x6
              obtain ⟨b1, b2, b3, b4, b5⟩ := on x26
              refine ⟨avs, b4, by rw [ra.length]; omega, ?_⟩
              have ow6 : w6.ow D := by rw [b2]; exact .inr rfl
              refine ⟨w6, s6, acc ++ [y], avs ++ [yv], (J2.re x26 I6).write ow6 d0 lone, b1.trans (write_f ow6), b2, fun a ha => ?_, upd_same, ?_, by simp; omega, by omega, ?_⟩
              · rw [upd_ne fun (z : a = D) => dn (by rw [← z]; exact ha)]
                exact b3 a ha
              · rw [Fz_own ow6]
                exact b5.append (RpL.one r6)
              · refine holds_imp (holds_bind h6) fun ys s7 h7 => ?_
                have h7' : kE G w1 e σ H1 Q (.list (acc ++ (y :: ys))) s7 := h7
                rw [List.append_assoc]
                exact h7'
            | false =>
              simp only [Bool.false_eq_true, if_false] at h5
              obtain ⟨b1, b2, b3, b4, b5⟩ := on x25
              exact iteF ⟨w5, s5, acc, avs, J2.re x25 I5, b1, b2, b3, b4, b5, by omega, by omega, h5⟩
          · exact q.elim
        · exact q.elim
      | zero =>
        unfold lcC at q
        split at q
        · rename_i ds hds
          split at q
          · rename_i hlen
            obtain ⟨a', vs2, t1, t2, t3⟩ := J2.cellL hds
            rw [ca2] at t1; cases t1
            refine .inl ⟨⟨vs2, .inl (.inl t2), by rw [t3.length]; omega⟩, ?_⟩
            have q' : kE G w1 e σ H1 Q (.list (acc ++ [])) s2 := q
            rw [List.append_nil] at q'
            have sm2 : Same (Fz w2 H2) (Fz ⟨w2.as, w1.ow⟩ H2) := fun a o h => by
              obtain ⟨z1, z2, z3⟩ := Fz_get h
              exact Fz_of z1 z2 fun z => z3 (by rw [o2]; exact .inl z)
            have ex : EExt w1 H1 ⟨w2.as, w1.ow⟩ H2 := ⟨x2.beg, x2.same.trans sm2, rfl, k2⟩
            have J : IE G ⟨w2.as, w1.ow⟩ (wipeE e vs) s2 (wipe σ vs) H2 := by
              refine ⟨J2.len, fun j d h => ?_, fun j es h => ?_, J2.inj, J2.slen, fun n es h => ?_, J2.nd, fun a ha z => J2.dis a ha (by rw [o2]; exact .inl z), J2.beg, fun a ha => ?_, fun a ha => J2.there a (by rw [o2]; exact .inl ha), J2.keep, J2.cfresh⟩
              · obtain ⟨v, z1, z2⟩ := J2.slot j d h
                exact ⟨v, z1, Rp.mono (.refl _) sm2 _ _ z2⟩
              · obtain ⟨p, us, z1, z2, z3, z4, z5, z6⟩ := J2.own j es h
                refine ⟨p, us, z1, ?_, z3, z4, z5, CR.mono (.refl _) sm2 z6⟩
                rw [o2] at z2
                rcases z2 with z2 | z2
                · exact z2
                · subst z2; exact absurd z1 (lone j es h)
              · obtain ⟨a, us, z1, z2, z3⟩ := J2.cells n es h
                exact ⟨a, us, z1, z2, CR.mono (.refl _) sm2 z3⟩
              · exact I1.o0 a ha
            refine q' ⟨w2.as, w1.ow⟩ (.ref D) H2 (I1.re ex J) ex ?_
            simp only [Rp]
            exact ⟨D, avs, rfl, Fz_of hD2 (fun z => J2.dis D z owD) dn, RpL.mono (.refl _) sm2 _ _ ra⟩
          · exact q.elim
        · exact q.elim
    · exact h1.elim
  · exact h1.elim
theorem de_lcC {elt tg iter : Expr} {ifs : List Expr} {scope : Scope} {own : List (Str × Nat)} {pos : Pos} {Fa : FE} {F : FG} {C : FT} {Fe : FE} {is : List Nat} (hK : X.K = G.K) (hc : X.calm = true) (hN : X.N.Nodup) (ok : BlkOk X.N X.env.scope scope own) (hi : PE X iter (tE G Fa))
    (hg : ∀ (s : Shared) (H : Hp) (A : Addr) (cl : List (Str × Addr)) (fp : List Addr), PG (X.blk s H scope (compEnvC scope cl A X.env) fp) tg (tG G is F)) (ht : ∀ (s : Shared) (H : Hp) (A : Addr) (cl : List (Str × Addr)) (fp : List Addr), PTs (X.blk s H scope (compEnvC scope cl A X.env) fp) ifs (tT G C))
    (he : ∀ (s : Shared) (H : Hp) (A : Addr) (cl : List (Str × Addr)) (fp : List Addr), PE (X.blk s H scope (compEnvC scope cl A X.env) fp) elt (tE G Fe)) (his : ∀ i ∈ is, i ∈ own.map (·.2) := by decide) (hs : ∀ x, foldedSetIterable iter X.env x = pure x := by intro _; rfl) :
    PE X (.ListComp elt [⟨tg, iter, ifs, 0⟩] scope pos) (tE G (fLcC Fa F C Fe (own.map (·.2)))) := PE_imp (pe_lc hc hN (pi_list hi) ok hg ht he hs) fun _ _ _ h => by
  rw [hK]
  exact lcC_of his h
end
end DL

namespace DL
open PySem PySem.Spec PyProof.Rows L2
section
variable {X : Cx} {G : Gx}
/-! ### <, <=, >, >= of alike data of any depth -/
def cmpOk (a b : Dat) : Bool := SeqAt.shaped a && SeqAt.shaped b && PySem.W.alike a b && !(match a with | .none => true | _ => false)
theorem cmpOk_is {a b : Dat} (h : cmpOk a b = true) : SeqAt.shaped a = true ∧ SeqAt.shaped b = true ∧ PySem.W.alike a b = true ∧ a ≠ .none := by
  unfold cmpOk at h
  rw [Bool.and_eq_true, Bool.and_eq_true, Bool.and_eq_true] at h
  refine ⟨h.1.1.1, h.1.1.2, h.1.2, fun z => ?_⟩
  subst z
  exact absurd h.2 (by simp)
def rCmpD (K : PySem.W.Frag) (f : Dat → Dat → Bool) : R2 := fun x y H Q => ∃ d e, Dp K H x d ∧ Dp K H y e ∧ cmpOk d e = true ∧ Q (.bl (f d e)) H
theorem op_ltD (hu : X.A.units + 64 < cLine) : OpR X (compareOp .Lt) (rCmpD X.K fun d e => PySem.W.dataLt d e) := fun pins s σ H x y v u Q I rx ry ⟨d, e, hd, he, c, q⟩ => by
  obtain ⟨c1, c2, c3, c4⟩ := cmpOk_is c
  obtain ⟨as, r1⟩ := Dp.reads I d x v hd rx
  obtain ⟨bs, r2⟩ := Dp.reads I e y u he ry
  exact PySem.W.lt_data r1 r2 c3 c4 (SeqAt.room_of_shaped c1 hu) ⟨.bl _, H, I, rfl, q⟩
theorem op_gtD (hu : X.A.units + 64 < cLine) : OpR X (compareOp .Gt) (rCmpD X.K fun d e => PySem.W.dataLt e d) := fun pins s σ H x y v u Q I rx ry ⟨d, e, hd, he, c, q⟩ => by
  obtain ⟨c1, c2, c3, c4⟩ := cmpOk_is c
  obtain ⟨as, r1⟩ := Dp.reads I d x v hd rx
  obtain ⟨bs, r2⟩ := Dp.reads I e y u he ry
  exact PySem.W.gt_data r1 r2 c3 c4 (SeqAt.room_of_shaped c1 hu) ⟨.bl _, H, I, rfl, q⟩
theorem op_leD (hu : X.A.units + 64 < cLine) : OpR X (compareOp .LtE) (rCmpD X.K fun d e => !PySem.W.dataLt e d) := fun pins s σ H x y v u Q I rx ry ⟨d, e, hd, he, c, q⟩ => by
  obtain ⟨c1, c2, c3, c4⟩ := cmpOk_is c
  obtain ⟨as, r1⟩ := Dp.reads I d x v hd rx
  obtain ⟨bs, r2⟩ := Dp.reads I e y u he ry
  exact PySem.W.le_data r1 r2 c3 c4 (SeqAt.room_of_shaped c1 hu) ⟨.bl _, H, I, rfl, q⟩
theorem op_geD (hu : X.A.units + 64 < cLine) : OpR X (compareOp .GtE) (rCmpD X.K fun d e => !PySem.W.dataLt d e) := fun pins s σ H x y v u Q I rx ry ⟨d, e, hd, he, c, q⟩ => by
  obtain ⟨c1, c2, c3, c4⟩ := cmpOk_is c
  obtain ⟨as, r1⟩ := Dp.reads I d x v hd rx
  obtain ⟨bs, r2⟩ := Dp.reads I e y u he ry
  exact PySem.W.ge_data r1 r2 c3 c4 (SeqAt.room_of_shaped c1 hu) ⟨.bl _, H, I, rfl, q⟩
/-- ints by their own order, other data by theirs -/
@[simp] def gCmp (f : Int → Int → Bool) (g : Dat → Dat → Bool) : Dat → Dat → Sto → Res Dat := fun a b s => match a, b with
  | .int i, .int j => .ok (.bool (f i j)) s
  | a, b => if cmpOk a b then .ok (.bool (g a b)) s else .bad
theorem opCmp {f : Int → Int → Bool} {g : Dat → Dat → Bool} : OpD G (fun x y H Q => rI0 (fun i j => .bl (f i j)) x y H Q ∨ rCmpD G.K g x y H Q) (gCmp f g) := by
  intro w e s σ H x y a b Q I ra rb h
  unfold gCmp at h
  split at h
  · rename_i i j
    exact .inl ⟨i, j, rp_int ra, rp_int rb, flat_ok I h rp_b⟩
  · split at h
    · rename_i c
      obtain ⟨c1, c2, _, _⟩ := cmpOk_is c
      exact .inr ⟨_, _, dp_full c1 ra, dp_full c2 rb, c, flat_ok I h rp_b⟩
    · exact h.elim
abbrev gLt2 : Dat → Dat → Sto → Res Dat := gCmp (fun i j => decide (i < j)) fun d e => PySem.W.dataLt d e
abbrev gLe2 : Dat → Dat → Sto → Res Dat := gCmp (fun i j => decide (i ≤ j)) fun d e => !PySem.W.dataLt e d
abbrev gGt2 : Dat → Dat → Sto → Res Dat := gCmp (fun i j => decide (j < i)) fun d e => PySem.W.dataLt e d
abbrev gGe2 : Dat → Dat → Sto → Res Dat := gCmp (fun i j => decide (j ≤ i)) fun d e => !PySem.W.dataLt d e
section
variable {a b : Expr} {pos : Pos} {Fa Fb : FE}
theorem or_lt2 (hu : X.A.units + 64 < cLine) (hK : X.K = G.K) : OpR X (compareOp .Lt) (fun x y H Q => rI0 (fun i j => .bl (decide (i < j))) x y H Q ∨ rCmpD G.K (fun d e => PySem.W.dataLt d e) x y H Q) := by rw [← hK]; exact op_lt.or (op_ltD hu)
theorem or_le2 (hu : X.A.units + 64 < cLine) (hK : X.K = G.K) : OpR X (compareOp .LtE) (fun x y H Q => rI0 (fun i j => .bl (decide (i ≤ j))) x y H Q ∨ rCmpD G.K (fun d e => !PySem.W.dataLt e d) x y H Q) := by rw [← hK]; exact op_le.or (op_leD hu)
theorem or_gt2 (hu : X.A.units + 64 < cLine) (hK : X.K = G.K) : OpR X (compareOp .Gt) (fun x y H Q => rI0 (fun i j => .bl (decide (j < i))) x y H Q ∨ rCmpD G.K (fun d e => PySem.W.dataLt e d) x y H Q) := by rw [← hK]; exact op_gt.or (op_gtD hu)
theorem or_ge2 (hu : X.A.units + 64 < cLine) (hK : X.K = G.K) : OpR X (compareOp .GtE) (fun x y H Q => rI0 (fun i j => .bl (decide (j ≤ i))) x y H Q ∨ rCmpD G.K (fun d e => !PySem.W.dataLt d e) x y H Q) := by rw [← hK]; exact op_ge.or (op_geD hu)
theorem de_lt2 (hu : X.A.units + 64 < cLine) (hK : X.K = G.K) (ha : PE X a (tE G Fa)) (hb : PE X b (tE G Fb)) : PE X (.Compare a [.Lt] [b] pos) (tE G (fBin gLt2 Fa Fb)) := de_cmp (or_lt2 hu hK) opCmp ha hb
theorem de_le2 (hu : X.A.units + 64 < cLine) (hK : X.K = G.K) (ha : PE X a (tE G Fa)) (hb : PE X b (tE G Fb)) : PE X (.Compare a [.LtE] [b] pos) (tE G (fBin gLe2 Fa Fb)) := de_cmp (or_le2 hu hK) opCmp ha hb
theorem de_gt2 (hu : X.A.units + 64 < cLine) (hK : X.K = G.K) (ha : PE X a (tE G Fa)) (hb : PE X b (tE G Fb)) : PE X (.Compare a [.Gt] [b] pos) (tE G (fBin gGt2 Fa Fb)) := de_cmp (or_gt2 hu hK) opCmp ha hb
theorem de_ge2 (hu : X.A.units + 64 < cLine) (hK : X.K = G.K) (ha : PE X a (tE G Fa)) (hb : PE X b (tE G Fb)) : PE X (.Compare a [.GtE] [b] pos) (tE G (fBin gGe2 Fa Fb)) := de_cmp (or_ge2 hu hK) opCmp ha hb
theorem dt_lt2 (hu : X.A.units + 64 < cLine) (hK : X.K = G.K) (ha : PE X a (tE G Fa)) (hb : PE X b (tE G Fb)) : PT X (.Compare a [.Lt] [b] pos) (tT G (fB (fBin gLt2 Fa Fb))) := dt_cmp (or_lt2 hu hK) opCmp ha hb
theorem dt_le2 (hu : X.A.units + 64 < cLine) (hK : X.K = G.K) (ha : PE X a (tE G Fa)) (hb : PE X b (tE G Fb)) : PT X (.Compare a [.LtE] [b] pos) (tT G (fB (fBin gLe2 Fa Fb))) := dt_cmp (or_le2 hu hK) opCmp ha hb
theorem dt_gt2 (hu : X.A.units + 64 < cLine) (hK : X.K = G.K) (ha : PE X a (tE G Fa)) (hb : PE X b (tE G Fb)) : PT X (.Compare a [.Gt] [b] pos) (tT G (fB (fBin gGt2 Fa Fb))) := dt_cmp (or_gt2 hu hK) opCmp ha hb
theorem dt_ge2 (hu : X.A.units + 64 < cLine) (hK : X.K = G.K) (ha : PE X a (tE G Fa)) (hb : PE X b (tE G Fb)) : PT X (.Compare a [.GtE] [b] pos) (tT G (fB (fBin gGe2 Fa Fb))) := dt_cmp (or_ge2 hu hK) opCmp ha hb
end
/-! ### sorted(xs), xs alike data of any depth -/
def insD {β : Type} (le : β → β → Bool) (a : β) : List β → List β
  | [] => [a]
  | b :: r => if le a b then a :: b :: r else b :: insD le a r
def isortL {β : Type} (le : β → β → Bool) : List β → List β
  | [] => []
  | a :: l => insD le a (isortL le l)
theorem insD_mid {β : Type} {le : β → β → Bool} {a : β} : ∀ {l1 l2 : List β}, (∀ b, b ∈ l1 → le a b = false) → (∀ b, b ∈ l2 → le a b = true) → insD le a (l1 ++ l2) = l1 ++ a :: l2
  | [], [], _, _ => rfl
  | [], b :: l2, _, h => by
    simp only [List.nil_append, insD]
    rw [if_pos (h b (by simp))]
  | b :: l1, l2, h, h2 => by
    simp only [List.cons_append, insD]
    rw [if_neg (by rw [h b (by simp)]; decide), insD_mid (fun c hc => h c (List.mem_cons_of_mem _ hc)) h2]
theorem isort_is {β : Type} {le : β → β → Bool} (trans : ∀ a b c, le a b = true → le b c = true → le a c = true) (total : ∀ a b, (le a b || le b a) = true) : ∀ l : List β, l.mergeSort le = isortL le l
  | [] => by simp [isortL]
  | a :: l => by
    obtain ⟨l1, l2, h1, h2, h3⟩ := List.mergeSort_cons (le := le) trans total a l
    have hp := List.pairwise_mergeSort (le := le) trans total (a :: l)
    rw [h1] at hp
    have ha : ∀ b, b ∈ l2 → le a b = true := (List.pairwise_cons.mp (List.pairwise_append.mp hp).2.1).1
    rw [h1, isortL, ← isort_is trans total l, h2, insD_mid (fun b hb => by simpa using h3 b hb) ha]
theorem insD_map {β γ : Type} {le : β → β → Bool} {le' : γ → γ → Bool} {f : β → γ} (h : ∀ a b, le a b = le' (f a) (f b)) (a : β) : ∀ l : List β, (insD le a l).map f = insD le' (f a) (l.map f)
  | [] => rfl
  | b :: r => by
    simp only [insD, List.map_cons]
    rw [← h]
    split
    · rfl
    · rw [List.map_cons, insD_map h a r]
theorem isort_map {β γ : Type} {le : β → β → Bool} {le' : γ → γ → Bool} {f : β → γ} (h : ∀ a b, le a b = le' (f a) (f b)) : ∀ l : List β, (isortL le l).map f = isortL le' (l.map f)
  | [] => rfl
  | a :: l => by rw [isortL, insD_map h, isort_map h l]; rfl
theorem insD_mem {β : Type} {le : β → β → Bool} {a x : β} : ∀ {l : List β}, x ∈ insD le a l → x = a ∨ x ∈ l
  | [], h => by simpa [insD] using h
  | b :: r, h => by
    unfold insD at h
    split at h
    · simpa using h
    · rcases List.mem_cons.mp h with e | h
      · exact .inr (by simp [e])
      · rcases insD_mem h with e | e
        · exact .inl e
        · exact .inr (List.mem_cons_of_mem _ e)
theorem isort_mem {β : Type} {le : β → β → Bool} {x : β} : ∀ {l : List β}, x ∈ isortL le l → x ∈ l
  | [], h => h
  | a :: l, h => by
    rcases insD_mem h with e | e
    · simp [e]
    · exact List.mem_cons_of_mem _ (isort_mem e)
theorem insD_len {β : Type} {le : β → β → Bool} {a : β} : ∀ l : List β, (insD le a l).length = l.length + 1
  | [] => rfl
  | b :: r => by
    unfold insD
    split
    · rfl
    · simp [insD_len r]
theorem isort_len {β : Type} {le : β → β → Bool} : ∀ l : List β, (isortL le l).length = l.length
  | [] => rfl
  | a :: l => by rw [isortL, insD_len, isort_len l]; rfl
def leD (a b : Dat) : Bool := !PySem.W.dataLt b a
/-- what can be sorted: alike, tuples with items or neither tuples nor None -/
def sortOk (ds : List Dat) : Bool := ds.all (fun d => SeqAt.shaped d && ds.all fun d2 => PySem.W.alike d d2) && (ds.all (fun d => match d with | .tuple (_ :: _) => true | _ => false) || ds.all (fun d => match d with | .none => false | .tuple _ => false | _ => true)) && decide (ds.length ≤ 16777216)
theorem sortOk_is {ds : List Dat} (h : sortOk ds = true) : (∀ d, d ∈ ds → SeqAt.shaped d = true) ∧ PySem.W.AllAlike ds ∧ PySem.W.Sortable ds ∧ ds.length ≤ sizeLine := by
  unfold sortOk at h
  rw [Bool.and_eq_true, Bool.and_eq_true, List.all_eq_true, Bool.or_eq_true, List.all_eq_true, List.all_eq_true] at h
  obtain ⟨⟨h1, h2⟩, h3⟩ := h
  refine ⟨fun d hd => (Bool.and_eq_true_iff.mp (h1 d hd)).1, fun d hd d2 hd2 => List.all_eq_true.mp (Bool.and_eq_true_iff.mp (h1 d hd)).2 d2 hd2, ?_, by rw [sizeLine_eq]; exact of_decide_eq_true h3⟩
  rcases h2 with h2 | h2
  · refine .inl fun d hd => ?_
    have := h2 d hd
    split at this
    · exact ⟨_, _, rfl⟩
    · cases this
  · refine .inr fun d hd => ?_
    have := h2 d hd
    split at this
    · cases this
    · cases this
    · rename_i n1 n2
      exact ⟨fun z => n1 z, fun xs z => n2 xs z⟩
@[simp] def gSortD : List Dat → Sto → Res Dat := fun ds s => match ds with
  | [.list xs] => if sortOk xs then .ok (.list (isortL leD xs)) s else .bad
  | _ => .bad
def rSortD (K : PySem.W.Frag) : List V → Hp → VK → Prop := fun vs H Q => ∃ (a : Addr) (xs : List V) (ds : List Dat), vs = [V.ref a] ∧ SqL K H a xs ∧ DpAll K H xs ds ∧ sortOk ds = true ∧
  ∀ ys p, ys = (isortL (fun p q => leD p.2 q.2) (xs.zip ds)).map Prod.fst → H p = none → Q (.ref p) (upd H p (.lst ys))
theorem dpA_len {K : PySem.W.Frag} {H : Hp} : ∀ {xs : List V} {ds : List Dat}, DpAll K H xs ds → xs.length = ds.length
  | _, _, .nil => rfl
  | _, _, .cons _ r => by simp [dpA_len r]
theorem dataLe_tot : PySem.W.TotalLe (PySem.W.dataLe false (fun p : V × Dat => p.2)) := PySem.W.sortLe_total _ _ _
theorem dataLe_is (p q : V × Dat) : PySem.W.dataLe false (fun p : V × Dat => p.2) p q = leD p.2 q.2 := by
  rw [PySem.W.dataLe_eq]
  rfl
theorem each_zip {K : PySem.W.Frag} {pins : List (Addr × Obj)} {σ : L2.St} {H : Hp} {s : Shared} (I : Inv X pins σ H s) : ∀ {xs : List V} {us : List Value} {ds : List Dat}, Vals xs us → DpAll X.K H xs ds →
    PySem.W.EachIs (fun (u : Value) (b : V × Dat) => RelV b.1 u) us (xs.zip ds) ∧ PySem.W.EachIs (fun (u : Value) (b : V × Dat) => ∃ as, Reads s.heap u b.2 as) us (xs.zip ds)
  | [], [], [], _, _ => ⟨.nil, .nil⟩
  | x :: xs, u :: us, d :: ds, r, h => by
    cases r with
    | cons r1 r2 =>
      cases h with
      | cons h1 h2 =>
        obtain ⟨e1, e2⟩ := each_zip (K := K) I r2 h2
        exact ⟨.cons r1 e1, .cons (Dp.reads I d x u h1 r1) e2⟩
  | [], [], _ :: _, _, h => by cases h
  | [], _ :: _, _, r, _ => by cases r
  | _ :: _, [], _, r, _ => by cases r
  | _ :: _, _ :: _, [], _, h => by cases h
theorem vals_each : ∀ {us : List Value} {bs : List (V × Dat)}, PySem.W.EachIs (fun (u : Value) (b : V × Dat) => RelV b.1 u) us bs → Vals (bs.map Prod.fst) us
  | _, _, .nil => .nil
  | _, _, .cons r t => .cons r (vals_each t)
theorem cr_sortD (hu : X.A.units + 80 < cLine) : CallR X (.builtin "sorted") (rSortD X.K) := by
  intro pins s σ H vs us Q I r h
  obtain ⟨a, xs, ds, rfl, hs, hd, ok, q⟩ := h
  obtain ⟨its, rv, hl, hz⟩ := I.list hs
  obtain ⟨u, rfl, ru⟩ := vals1 r
  cases (show u = Value.ref a from ru)
  obtain ⟨s1, s2, s3, s4⟩ := sortOk_is ok
  have em : (xs.zip ds).map (fun p : V × Dat => p.2) = ds := by
    have := List.map_snd_zip (l₁ := xs) (l₂ := ds) (by rw [dpA_len hd]; exact Nat.le_refl _)
    exact this
  obtain ⟨e1, e2⟩ := each_zip (K := X.K) I rv hd
  refine PySem.W.sorted_data (enc := fun p : V × Dat => p.2) (R := fun (u : Value) (b : V × Dat) => RelV b.1 u) hl.isList e1 e2 (by rw [em]; exact s2) (by rw [em]; exact s3) (by rw [List.length_zip, dpA_len hd]; simpa using s4) (fun b hb => ?_) fun out ho eo => ?_
  · have hm : b.2 ∈ ds := by
      rw [← em]
      exact List.mem_map.mpr ⟨b, hb, rfl⟩
    have := SeqAt.depth_of_shaped (s1 _ hm)
    omega
  · rw [isort_is dataLe_tot.trans (fun a b => by rw [Bool.or_eq_true]; exact dataLe_tot.total a b), show PySem.W.dataLe false (fun p : V × Dat => p.2) = (fun p q => leD p.2 q.2) from funext fun p => funext fun q => dataLe_is p q] at eo
    obtain ⟨ep, he'⟩ := PyProof.Rows.sortedAll_at s.heap its out.toArray
    have hv := vals_each eo
    have hlen : ((isortL (fun p q : V × Dat => leD p.2 q.2) (xs.zip ds)).map Prod.fst).length ≤ sizeLine := by
      rw [List.length_map, isort_len, List.length_zip, dpA_len hd]
      simpa using s4
    exact ⟨.ref _, upd H (s.heap.objs.size + 1) (.lst _), I.laid (t' := s.toks) (fun _ _ => PyProof.Rows.sortedAll_old) (Nat.le_succ _) ⟨hlen, out, ep, hv, he'⟩, rfl, q _ _ rfl (I.hok.fresh (Nat.le_succ _))⟩
theorem rpl_pairs {K : PySem.W.Frag} {as : List Addr} {F : Hp} : ∀ {bs : List (V × Dat)}, (∀ b, b ∈ bs → Rp K as F b.2 b.1) → RpL K as F (bs.map Prod.snd) (bs.map Prod.fst)
  | [], _ => RpL.nil
  | b :: bs, h => RpL.cons (h b (by simp)) (rpl_pairs fun c hc => h c (List.mem_cons_of_mem _ hc))
theorem pairs_rpl {K : PySem.W.Frag} {as : List Addr} {F : Hp} : ∀ {ds : List Dat} {vs : List V}, RpL K as F ds vs → ∀ b, b ∈ vs.zip ds → Rp K as F b.2 b.1
  | [], [], _, b, h => by simp at h
  | d :: ds, v :: vs, r, b, h => by
    simp only [RpL] at r
    rcases List.mem_cons.mp (show b ∈ (v, d) :: vs.zip ds from h) with e | h
    · subst e; exact r.1
    · exact pairs_rpl r.2 b h
  | [], _ :: _, h, _, _ => by simp [RpL] at h
  | _ :: _, [], h, _, _ => by simp [RpL] at h
theorem cdSortD : CallD G (rSortD G.K) gSortD := by
  intro w e s σ H xs ds Q I r h
  unfold gSortD at h
  split at h
  · rename_i zs
    split at h
    · rename_i c
      obtain ⟨v, rfl, r1⟩ := rpl1 r
      obtain ⟨p, ys, rfl, hp, rx⟩ := rp_list r1
      obtain ⟨s1, _, _, _⟩ := sortOk_is c
      have hdp : DpAll G.K H ys zs := DpA_mono Fz_sub _ _ (dpA_of zs ys (by
        have go : ∀ l : List Dat, (∀ d, d ∈ l → SeqAt.shaped d = true) → PyData.canLayAll0 l = true := by
          intro l
          induction l with
          | nil => intro _; simp [PyData.canLayAll0]
          | cons d l ih =>
            intro hl
            simp only [PyData.canLayAll0, Bool.and_eq_true]
            exact ⟨SeqAt.canLay_of_shaped (hl d (by simp)), ih fun x hx => hl x (List.mem_cons_of_mem _ hx)⟩
        exact go zs s1) rx)
      refine ⟨p, ys, zs, rfl, .inl (.inl (Fz_sub _ _ hp)), hdp, c, fun out l eo hl => ?_⟩
      subst eo
      refine new_list I ?_ h hl
      have em : (ys.zip zs).map Prod.snd = zs := List.map_snd_zip (l₁ := ys) (l₂ := zs) (by rw [rx.length]; exact Nat.le_refl _)
      have e2 : isortL leD zs = (isortL (fun p q : V × Dat => leD p.2 q.2) (ys.zip zs)).map Prod.snd := by
        rw [isort_map (le' := leD) (fun _ _ => rfl), em]
      rw [e2]
      exact rpl_pairs fun b hb => pairs_rpl rx b (isort_mem hb)
    · exact h.elim
  · exact h.elim
theorem de_sortD {k : Nat} {p pos : Pos} {a : Expr} {es : List Expr} {Fs : FA} (hr : Room k X.A) (hK : X.K = G.K) (hm : X.mg "sorted" = none) (ha : PA X (a :: es) (tA G Fs)) (hgl : Gl X "sorted" := by rfl) (he : starEach (a :: es) X.env = (false, eval a X.env) :: starEach es X.env := by rfl) (hpl : (backTo pos (starEach es X.env)).any (·.1) = false := by rfl) :
    PE X (.Call (.Name "sorted" p) (a :: es) [] pos) (tE G (fCall gSortD Fs)) := de_callB (cr_sortD (by have := hr.un; omega)) (by rw [hK]; exact cdSortD) hm ha (hgl := hgl) (he := he) (hpl := hpl)
end
end DL

namespace DL
open PySem PySem.Spec PyProof.Rows L2
section
variable {X : Cx} {G : Gx}
/-! ### str(x) -/
@[simp] def gStr : List Dat → Sto → Res Dat := fun ds s => match ds with
  | [.int i] => if i.natAbs.log2 < 1920 then .ok (.str (toString i)) s else .bad
  | [.str z] => .ok (.str z) s
  | _ => .bad
theorem cdStr : CallD G (fun xs H Q => (∃ i, xs = [V.int i] ∧ i.natAbs.log2 < 1920 ∧ Q (.str (toString i)) H) ∨ ∃ a, xs = [V.str a] ∧ Q (.str a) H) gStr := by
  intro w e s σ H xs ds Q I r h
  unfold gStr at h
  split at h
  · split at h
    · rename_i c
      obtain ⟨v, rfl, r1⟩ := rpl1 r
      exact .inl ⟨_, by rw [rp_int r1], c, flat_ok I h rp_s⟩
    · exact h.elim
  · obtain ⟨v, rfl, r1⟩ := rpl1 r
    exact .inr ⟨_, by rw [rp_str r1], flat_ok I h rp_s⟩
  · exact h.elim
theorem de_strOf {p pos : Pos} {a : Expr} {es : List Expr} {Fs : FA} (hm : X.mg "str" = none) (ha : PA X (a :: es) (tA G Fs)) (hgl : Gl X "str" := by rfl) (he : starEach (a :: es) X.env = (false, eval a X.env) :: starEach es X.env := by rfl) (hpl : (backTo pos (starEach es X.env)).any (·.1) = false := by rfl) :
    PE X (.Call (.Name "str" p) (a :: es) [] pos) (tE G (fCall gStr Fs)) := de_callTy (CallR.or call_str_int SkE.call_str_str) cdStr hm ha (hgl := hgl) (he := he) (hpl := hpl)
/-! ### a * b -/
def strRep (x : Str) (n : Int) : Str := if n < 1 then Str.empty else if (n == 1 || x.length == 0) = true then x else ⟨(List.replicate n.toNat x.cps).foldl (· ++ ·) #[]⟩
def rMulS : R2 := fun x y H Q => ∃ z k, x = .str z ∧ y = .int k ∧ 0 ≤ k ∧ k ≤ 1000 ∧ z.length ≤ 1000 ∧ Q (.str (strRep z k)) H
theorem op_mulS : OpR X (binaryOp .Mult) rMulS := fun pins s σ H x y v u Q I rx ry ⟨z, k, ex, ey, h0, h1, hz, q⟩ => by
  subst ex ey
  obtain ⟨t, rfl⟩ := rx
  obtain ⟨t2, rfl⟩ := ry
  have big : ¬ ((z.length : Int) > (2 ^ 63 - 1) / k) ∨ k < 1 := by
    by_cases hk : k < 1
    · exact .inr hk
    · refine .inl ?_
      have hk1 : 1 ≤ k := by omega
      have : (1000 : Int) ≤ (2 ^ 63 - 1) / k := by
        rw [Int.le_ediv_iff_mul_le (by omega)]
        have : 1000 * k ≤ 1000 * 1000 := by omega
        omega
      omega
  refine PySem.P.mul_str (by rw [decide_eq_false (by omega), decide_eq_false (by omega)]; rfl) (fun h _ => ?_) (fun _ _ => ?_) ?_
  · rcases big with b | b
    · exact b
    · exact absurd b h
  · unfold Builtin.Str.tooLong
    refine decide_eq_false ?_
    rw [sizeLine_eq]
    have : z.length * k.toNat ≤ 1000 * 1000 := Nat.mul_le_mul hz (by omega)
    omega
  · have fin : ∀ {w : Str}, w = strRep z k → ∀ t3 tk, EP X pins σ Q (.str w t3) { s with toks := tk } := fun {w} e t3 tk => ⟨.str w, H, I.tok _, ⟨t3, rfl⟩, by rw [e]; exact q⟩
    unfold strRep at fin
    split
    · rename_i c
      rw [if_pos c] at fin
      exact ⟨by decide, fin rfl _ _⟩
    · rename_i c
      rw [if_neg c] at fin
      split
      · rename_i c2
        rw [if_pos c2] at fin
        exact fin rfl t s.toks
      · rename_i c2
        rw [if_neg c2] at fin
        refine ⟨?_, fin rfl _ _⟩
        have size : ∀ (m : Nat) (a : Array Nat), ((List.replicate m z.cps).foldl (· ++ ·) a).size = a.size + m * z.cps.size := by
          intro m
          induction m with
          | zero => intro a; simp
          | succ m ih => intro a; rw [List.replicate_succ, List.foldl_cons, ih, Array.size_append, Nat.succ_mul]; omega
        show ((List.replicate k.toNat z.cps).foldl (· ++ ·) #[]).size ≤ _
        rw [size]
        have e0 : z.cps.size = z.length := rfl
        have : k.toNat * z.cps.size ≤ 1000 * 1000 := Nat.mul_le_mul (by omega) (by omega)
        rw [sizeLine_eq]
        simp
        omega
@[simp] def gMul2 : Dat → Dat → Sto → Res Dat := fun a b s => match a, b with
  | .int i, .int j => if cMul i j then .ok (.int (i * j)) s else .bad
  | .str z, .int k => if 0 ≤ k ∧ k ≤ 1000 ∧ z.length ≤ 1000 then .ok (.str (strRep z k)) s else .bad
  | .list xs, .int k => if -(2 ^ 63) ≤ k ∧ k < 2 ^ 63 ∧ xs.length * k.toNat ≤ 16777216 then .ok (.list (List.replicate k.toNat xs).flatten) s else .bad
  | .tuple xs, .int k => if xs ≠ [] ∧ 2 ≤ k ∧ k ≤ 1000 ∧ xs.length ≤ 1000 then .ok (.tuple (List.replicate k.toNat xs).flatten) s else .bad
  | _, _ => .bad
theorem rpl_rep {K as F} {ds : List Dat} {vs : List V} (r : RpL K as F ds vs) : ∀ n : Nat, RpL K as F (List.replicate n ds).flatten (List.replicate n vs).flatten
  | 0 => RpL.nil
  | n + 1 => by
    rw [List.replicate_succ, List.replicate_succ, List.flatten_cons, List.flatten_cons]
    exact r.append (rpl_rep r n)
theorem opMul2 : OpD G (fun x y H Q => rI CMulW (fun i j => .int (i * j)) x y H Q ∨ rMulS x y H Q ∨ rRep x y H Q ∨ rRepT G.K x y H Q) gMul2 := by
  intro w e s σ H x y a b Q I ra rb h
  unfold gMul2 at h
  split at h
  · rename_i i j
    split at h
    · rename_i c
      exact .inl ⟨i, j, rp_int ra, rp_int rb, show i.natAbs.log2 + j.natAbs.log2 < 1000000 from of_decide_eq_true c, flat_ok I h rp_i⟩
    · exact h.elim
  · rename_i z k
    split at h
    · rename_i c
      exact .inr (.inl ⟨z, k, rp_str ra, rp_int rb, c.1, c.2.1, c.2.2, flat_ok I h rp_s⟩)
    · exact h.elim
  · rename_i zs k
    split at h
    · rename_i c
      obtain ⟨p, xs, rfl, hp, rx⟩ := rp_list ra
      exact .inr (.inr (.inl ⟨p, k, xs, rfl, rp_int rb, Fz_sub _ _ hp, c.1, c.2.1, by rw [rx.length, sizeLine_eq]; exact c.2.2, fun l hl => new_list I (rpl_rep rx _) h hl⟩))
    · exact h.elim
  · rename_i zs k
    split at h
    · rename_i c
      obtain ⟨p, xs, rfl, hp, rx⟩ := rp_tuple ra
      refine .inr (.inr (.inr ⟨p, k, xs, rfl, rp_int rb, sqT_mono Fz_sub hp, fun z => c.1 ?_, c.2.1, c.2.2.1, by rw [rx.length]; exact c.2.2.2, fun l hl => new_tuple I (rpl_rep rx _) h hl⟩))
      subst z
      have := rx.length
      exact List.eq_nil_of_length_eq_zero this.symm
    · exact h.elim
  · exact h.elim
theorem de_mul2 {a b : Expr} {pos : Pos} {Fa Fb : FE} (hK : X.K = G.K) (ha : PE X a (tE G Fa)) (hb : PE X b (tE G Fb)) : PE X (.BinOp a .Mult b pos) (tE G (fBin gMul2 Fa Fb)) := de_bin (op_mulW.or (op_mulS.or (op_rep.or (by rw [← hK]; exact op_repT)))) opMul2 ha hb
end
end DL

namespace DL
open PySem PySem.Spec PyProof.Rows L2
/-! ### a def's own cells are forgotten when it hands back data that do not tell of them -/
mutual
def low (n : Nat) : Dat → Bool
  | .list ds => lowL n ds
  | .tuple ds => lowL n ds
  | .dict kvs => match kvs with
    | [(.int k, .none)] => decide (k.toNat < n)
    | _ => true
  | _ => true
termination_by structural d => d
def lowL (n : Nat) : List Dat → Bool
  | [] => true
  | d :: ds => low n d && lowL n ds
termination_by structural ds => ds
end
def lowC (n : Nat) : Cel → Bool
  | .ls ds => lowL n ds
  | .dk kvs => lowL n (kvs.map Prod.snd)
  | .dt kvs => lowL n (kvs.map Prod.snd)
  | .ob _ ds => lowL n ds
def lowS (n : Nat) : Nat → Sto → Bool
  | 0, _ => true
  | _ + 1, [] => false
  | m + 1, c :: s => lowC n c && lowS n m s
def tidyR (n : Nat) : Res Dat → Res Dat
  | .ok d s' => if (low n d && lowS n n s') = true then .ok d (s'.take n) else .ok d s'
  | .ex d s' => if (low n d && lowS n n s') = true then .ex d (s'.take n) else .ex d s'
  | .bad => .bad
def gTidy (g : List Dat → Sto → Res Dat) : List Dat → Sto → Res Dat := fun ds s => tidyR s.length (g ds s)
section
variable {K : PySem.W.Frag} {as more : List Addr} {F F' : Hp}
theorem low_get {n : Nat} {a : Addr} (hn : n < as.length) (h : (as ++ more)[n]? = some a) : as[n]? = some a := by
  rwa [List.getElem?_append_left hn] at h
mutual
theorem Rp.low (sm : Same F F') : ∀ (d : Dat) (v : V), low as.length d = true → Rp K (as ++ more) F d v → Rp K as F' d v
  | .none, v, _, h => by simpa [Rp] using h
  | .bool b, v, _, h => by simpa [Rp] using h
  | .int i, v, _, h => by simpa [Rp] using h
  | .str x, v, _, h => by simpa [Rp] using h
  | .list ds, v, l, h => by
    simp only [Rp] at h ⊢
    obtain ⟨a, xs, e, q, r⟩ := h
    exact ⟨a, xs, e, sm _ _ q, RpL.low sm ds xs (by simpa only [DL.low] using l) r⟩
  | .tuple ds, v, l, h => by
    simp only [Rp] at h ⊢
    obtain ⟨a, xs, e, q, r⟩ := h
    exact ⟨a, xs, e, sqT_mono sm q, RpL.low sm ds xs (by simpa only [DL.low] using l) r⟩
  | .dict kvs, v, l, h => by
    unfold Rp at h ⊢
    split at h
    · rename_i k
      obtain ⟨a, e, q⟩ := h
      refine ⟨a, e, low_get ?_ q⟩
      simpa [DL.low] using l
    · obtain ⟨a, ns, e, e2, q⟩ := h
      exact ⟨a, ns, e, e2, sqL_mono sm q⟩
    · exact h.elim
theorem RpL.low (sm : Same F F') : ∀ (ds : List Dat) (vs : List V), lowL as.length ds = true → RpL K (as ++ more) F ds vs → RpL K as F' ds vs
  | [], [], _, h => by simp [RpL]
  | d :: ds, v :: vs, l, h => by
    simp only [RpL] at h ⊢
    simp only [lowL, Bool.and_eq_true] at l
    exact ⟨Rp.low sm d v l.1 h.1, RpL.low sm ds vs l.2 h.2⟩
  | [], _ :: _, _, h => by simp [RpL] at h
  | _ :: _, [], _, h => by simp [RpL] at h
end
theorem CR.low {xc : Xc} (sm : Same F F') {c : Cel} {ho : HO} (l : lowC as.length c = true) (h : CR xc K (as ++ more) F c ho) : CR xc K as F' c ho := by
  cases c with
  | ls ds =>
    obtain ⟨vs, e, r⟩ := h
    exact ⟨vs, e, RpL.low sm _ _ l r⟩
  | dk kvs =>
    obtain ⟨vs, e, r⟩ := h
    exact ⟨vs, e, RpL.low sm _ _ l r⟩
  | dt kvs =>
    obtain ⟨vs, e, r⟩ := h
    exact ⟨vs, e, RpL.low sm _ _ l r⟩
  | ob id ds =>
    obtain ⟨C, fns, dx, vs, e1, e2, e3, r⟩ := h
    exact ⟨C, fns, dx, vs, e1, e2, e3, RpL.low sm _ _ l r⟩
end
theorem lowS_get {n : Nat} : ∀ {m : Nat} {s : Sto} {i : Nat} {c : Cel}, lowS n m s = true → i < m → s[i]? = some c → lowC n c = true
  | 0, s, i, c, _, h, _ => absurd h (by omega)
  | m + 1, [], i, c, l, _, _ => by simp [lowS] at l
  | m + 1, d :: s, 0, c, l, _, e => by
    simp only [lowS, Bool.and_eq_true] at l
    simp at e; subst e
    exact l.1
  | m + 1, d :: s, i + 1, c, l, h, e => by
    simp only [lowS, Bool.and_eq_true] at l
    exact lowS_get (m := m) l.2 (Nat.lt_of_succ_lt_succ h) (by simpa using e)
theorem lowS_len {n : Nat} : ∀ {m : Nat} {s : Sto}, lowS n m s = true → m ≤ s.length
  | 0, s, _ => Nat.zero_le _
  | m + 1, [], l => by simp [lowS] at l
  | m + 1, c :: s, l => by
    simp only [lowS, Bool.and_eq_true] at l
    have := lowS_len l.2
    simp; omega
theorem aft_tidy {xc : Xc} {K : PySem.W.Frag} {w w' : Wd} {H H' : Hp} {s' : Sto} (af : Aft xc K w H w' s' H') (l : lowS w.as.length w.as.length s' = true) (nd : w.as.Nodup) : Aft xc K w H w (s'.take w.as.length) H' ∧ ∃ more, w'.as = w.as ++ more ∧ Same (Fz w' H') (Fz w H') := by
  obtain ⟨o, ⟨more, b⟩, ci, sm, kp, fr⟩ := af
  have s2 : Same (Fz w' H') (Fz w H') := fun a u h => by
    obtain ⟨h1, h2, h3⟩ := Fz_get h
    exact Fz_of h1 (fun q => h2 (by rw [b]; exact List.mem_append_left _ q)) (fun q => h3 (by rw [o]; exact q))
  refine ⟨⟨rfl, .refl _, ⟨?_, fun n c h => ?_, nd, fun a ha q => ?_, fun a h => ci.there a (by rw [o]; exact h)⟩, fun a u h => s2 _ _ (sm _ _ h), kp, fun a h h' => absurd h h'⟩, more, b, s2⟩
  · rw [List.length_take]
    have := lowS_len l
    omega
  · rw [List.getElem?_take] at h
    split at h
    · rename_i hn
      obtain ⟨a, ho, h1, h2, h3⟩ := ci.cells n c h
      rw [b] at h1 h3
      exact ⟨a, ho, low_get hn h1, h2, CR.low s2 (lowS_get l hn h) h3⟩
    · cases h
  · exact ci.dis a (by rw [b]; exact List.mem_append_left _ ha) (by rw [o]; exact q)
theorem FnOk.tidy {P : Program} {wd : World} {K : PySem.W.Frag} {mg : Str → Option Value} {base : Heap} {CX : CXT} {k : Nat} {f : Addr} {fd : FuncData} {ps : List Str} {xc : Xc} {g : List Dat → Sto → Res Dat} (F : FnOk P wd K mg base CX k f fd ps (spX K xc g)) :
    FnOk P wd K mg base CX k f fd ps (spX K xc (gTidy g)) := F.imp fun vs H Q E ⟨w, ds, s, c, r, h⟩ => by
  refine ⟨w, ds, s, c, r, ?_⟩
  unfold gTidy tidyR at h
  cases q : g ds s with
  | bad => rw [q] at h; exact h
  | ok d s' =>
    rw [q] at h
    simp only [] at h
    split at h
    · rename_i l
      simp only [Bool.and_eq_true] at l
      intro w' v H' af rv
      rw [← c.slen] at l h
      obtain ⟨af2, more, b, s2⟩ := aft_tidy af l.2 c.nd
      exact h w v H' af2 (Rp.low s2 d v l.1 (by rw [← b]; exact rv))
    · exact h
  | ex d s' =>
    rw [q] at h
    simp only [] at h
    split at h
    · rename_i l
      simp only [Bool.and_eq_true] at l
      intro w' H' cls dd af rv
      rw [← c.slen] at l h
      obtain ⟨af2, more, b, s2⟩ := aft_tidy af l.2 c.nd
      refine h w H' cls dd af2 ?_
      obtain ⟨id, fds, C, fns, d2, us, h1, h2, h3, h4, h5, h6, h7⟩ := rv
      subst h1
      refine ⟨id, fds, C, fns, d2, us, rfl, h2, h3, h4, s2 _ _ h5, h6, RpL.low s2 _ _ ?_ (by rw [← b]; exact h7)⟩
      have l1 := l.1
      simp only [DL.low, lowL, Bool.and_eq_true] at l1
      exact l1.2
    · exact h
end DL

namespace DL
open PySem PySem.Spec PyProof.Rows L2
/-! ### texts cut at a sign -/
abbrev cs (x : Str) : List Nat := x.cps.toList
theorem cs_inj {a b : Str} (h : cs a = cs b) : a = b := by
  cases a; cases b
  simp only [cs] at h
  rw [Array.toList_inj.mp h]
theorem cs_app (a b : Str) : cs (a ++ b) = cs a ++ cs b := by
  show (a.cps ++ b.cps).toList = _
  rw [Array.toList_append]
theorem len_app (a b : Str) : (a ++ b).length = a.length + b.length := by
  show (a.cps ++ b.cps).size = _
  rw [Array.size_append]; rfl
theorem app_assoc (a b c : Str) : a ++ b ++ c = a ++ (b ++ c) := cs_inj (by simp only [cs_app, List.append_assoc])
theorem cut_at (c : Nat) : ∀ (a b x y : List Nat), c ∉ a → c ∉ b → a ++ c :: x = b ++ c :: y → a = b ∧ x = y
  | [], [], x, y, _, _, h => ⟨rfl, by simpa using h⟩
  | [], d :: b, x, y, _, hb, h => by simp at h; exact absurd (by simp [h.1]) hb
  | d :: a, [], x, y, ha, _, h => by simp at h; exact absurd (by simp [h.1]) ha
  | d :: a, e :: b, x, y, ha, hb, h => by
    simp only [List.cons_append, List.cons.injEq] at h
    obtain ⟨h1, h2⟩ := cut_at c a b x y (fun q => ha (List.mem_cons_of_mem _ q)) (fun q => hb (List.mem_cons_of_mem _ q)) h.2
    exact ⟨by rw [h.1, h1], h2⟩
theorem join_unique (c : Nat) : ∀ (l m : List Str), l ≠ [] → m ≠ [] → (∀ p ∈ l, c ∉ cs p) → (∀ p ∈ m, c ∉ cs p) → Str.join ⟨#[c]⟩ l = Str.join ⟨#[c]⟩ m → l = m
  | [], _, h, _, _, _, _ => absurd rfl h
  | _ :: _, [], _, h, _, _, _ => absurd rfl h
  | [a], [b], _, _, _, _, h => by
    have : a = b := h
    rw [this]
  | [a], b :: b2 :: r, _, _, ha, _, h => by
    have h : a = b ++ ⟨#[c]⟩ ++ Str.join ⟨#[c]⟩ (b2 :: r) := h
    have q := ha a (List.mem_singleton.mpr rfl)
    rw [h, cs_app, cs_app] at q
    exact absurd (by simp [cs]) q
  | a :: a2 :: r, [b], _, _, _, hb, h => by
    have h : a ++ ⟨#[c]⟩ ++ Str.join ⟨#[c]⟩ (a2 :: r) = b := h
    have q := hb b (List.mem_singleton.mpr rfl)
    rw [← h, cs_app, cs_app] at q
    exact absurd (by simp [cs]) q
  | a :: a2 :: r, b :: b2 :: r', _, _, ha, hb, h => by
    have h : a ++ ⟨#[c]⟩ ++ Str.join ⟨#[c]⟩ (a2 :: r) = b ++ ⟨#[c]⟩ ++ Str.join ⟨#[c]⟩ (b2 :: r') := h
    have e := congrArg cs h
    simp only [cs_app, List.append_assoc] at e
    obtain ⟨h1, h2⟩ := cut_at c _ _ _ _ (ha a (by simp)) (hb b (by simp)) (show cs a ++ c :: cs (Str.join ⟨#[c]⟩ (a2 :: r)) = cs b ++ c :: cs (Str.join ⟨#[c]⟩ (b2 :: r')) from e)
    rw [cs_inj h1, join_unique c (a2 :: r) (b2 :: r') (by simp) (by simp) (fun p hp => ha p (List.mem_cons_of_mem _ hp)) (fun p hp => hb p (List.mem_cons_of_mem _ hp)) (cs_inj h2)]
theorem split_join {c : Nat} {l : List Str} (h : l ≠ []) (hf : ∀ p ∈ l, c ∉ cs p) : Txt.split (Str.join ⟨#[c]⟩ l) ⟨#[c]⟩ = l :=
  join_unique c _ _ (fun z => by have := split_pos (Str.join ⟨#[c]⟩ l) ⟨#[c]⟩; rw [z] at this; simp at this) h (StrLaws.split_free _ c) hf (StrLaws.join_split _ _)
/-- what stands before the last part -/
def pre (sep : Str) : List Str → Str
  | [] => ⟨#[]⟩
  | a :: r => a ++ sep ++ pre sep r
theorem join_snoc (sep : Str) : ∀ (l : List Str) (x : Str), Str.join sep (l ++ [x]) = pre sep l ++ x
  | [], x => cs_inj (by rw [cs_app]; rfl)
  | [a], x => by
    show a ++ sep ++ x = a ++ sep ++ ⟨#[]⟩ ++ x
    exact cs_inj (by simp only [cs_app]; simp [cs])
  | a :: b :: r, x => by
    show a ++ sep ++ Str.join sep (b :: r ++ [x]) = a ++ sep ++ pre sep (b :: r) ++ x
    rw [join_snoc sep (b :: r) x, app_assoc (a ++ sep)]
/-- no sign c in x -/
def free (c : Nat) (x : Str) : Bool := !(cs x).contains c
theorem split_snoc {c : Nat} {l : List Str} {x t : Str} (ht : t = pre ⟨#[c]⟩ l) (hl : l.all (free c) = true) (hx : free c x = true) : Txt.split (t ++ x) ⟨#[c]⟩ = l ++ [x] := by
  rw [ht, ← join_snoc]
  have fr : ∀ {p : Str}, free c p = true → c ∉ cs p := fun {p} h q => by
    simp [free] at h
    exact h (by simpa [cs] using q)
  refine split_join (by simp) fun p hp => ?_
  rcases List.mem_append.mp hp with q | q
  · exact fr (List.all_eq_true.mp hl p q)
  · rw [List.mem_singleton.mp q]; exact fr hx
end DL

namespace DL
open PySem PySem.Spec PyProof.Rows L2
abbrev gSub : Dat → Dat → Sto → Res Dat := gII0 (· - ·)
abbrev gMul : Dat → Dat → Sto → Res Dat := gII cMul (· * ·)
abbrev gDiv : Dat → Dat → Sto → Res Dat := gII cDiv (· / ·)
abbrev gMod : Dat → Dat → Sto → Res Dat := gII cMod (· % ·)
abbrev gPow : Dat → Dat → Sto → Res Dat := gII cPow fun i j => i ^ j.toNat
abbrev gShl : Dat → Dat → Sto → Res Dat := gII cPow fun i j => i * 2 ^ j.toNat
abbrev gLt : Dat → Dat → Sto → Res Dat := gIB fun i j => decide (i < j)
abbrev gLe : Dat → Dat → Sto → Res Dat := gIB fun i j => decide (i ≤ j)
abbrev gGt : Dat → Dat → Sto → Res Dat := gIB fun i j => decide (j < i)
abbrev gGe : Dat → Dat → Sto → Res Dat := gIB fun i j => decide (j ≤ i)
@[simp] theorem size_line : sizeLine = 16777216 := sizeLine_eq
@[simp] theorem shaped_int (i : Int) : SeqAt.shaped (.int i) = true := by simp [SeqAt.shaped, PyData.canLay0, PyData.depth]
@[simp] theorem shaped_bool (i : Bool) : SeqAt.shaped (.bool i) = true := by simp [SeqAt.shaped, PyData.canLay0, PyData.depth]
@[simp] theorem shaped_none : SeqAt.shaped .none = true := by simp [SeqAt.shaped, PyData.canLay0, PyData.depth]
@[simp] theorem eqv_int (i j : Int) : PyData.eqv (.int i) (.int j) = (i == j) := by simp [PyData.eqv]
theorem at_pos {α : Type} {l : List α} {i : Int} {j : Nat} {a : α} (n : Nat) (hi : i = (j : Int)) (h : l[j]? = some a) : L2.atI l i = some a := by
  rw [hi]
  exact L2.atI_nat h
@[simp] theorem at_0 {α : Type} (a : α) (r : List α) : L2.atI (a :: r) 0 = some a := at_pos (j := 0) 0 rfl rfl
@[simp] theorem at_1 {α : Type} (a b : α) (r : List α) : L2.atI (a :: b :: r) 1 = some b := at_pos (j := 1) 0 rfl rfl
@[simp] theorem at_2 {α : Type} (a b c : α) (r : List α) : L2.atI (a :: b :: c :: r) 2 = some c := at_pos (j := 2) 0 rfl rfl
@[simp] theorem at_3 {α : Type} (a b c d : α) (r : List α) : L2.atI (a :: b :: c :: d :: r) 3 = some d := at_pos (j := 3) 0 rfl rfl
@[simp] theorem at_4 {α : Type} (a b c d e : α) (r : List α) : L2.atI (a :: b :: c :: d :: e :: r) 4 = some e := at_pos (j := 4) 0 rfl rfl
@[simp] theorem at_5 {α : Type} (a b c d e f : α) (r : List α) : L2.atI (a :: b :: c :: d :: e :: f :: r) 5 = some f := at_pos (j := 5) 0 rfl rfl
@[simp] theorem at_6 {α : Type} (a b c d e f g : α) (r : List α) : L2.atI (a :: b :: c :: d :: e :: f :: g :: r) 6 = some g := at_pos (j := 6) 0 rfl rfl
@[simp] theorem at_7 {α : Type} (a b c d e f g h : α) (r : List α) : L2.atI (a :: b :: c :: d :: e :: f :: g :: h :: r) 7 = some h := at_pos (j := 7) 0 rfl rfl
@[simp] theorem eqv_bool (i j : Bool) : PyData.eqv (.bool i) (.bool j) = (i == j) := by simp [PyData.eqv]
/-- the end: what the law's def does with the script -/
theorem law_end {K : PySem.W.Frag} {xc : Xc} {H : Hp} {a : Addr} {ns : List Int} {g : List Dat → Sto → Res Dat} {E : XK} (hS : SqL K H a (ns.map V.int)) (h : ∃ s, g [seal_ ns] [] = .ok (.bool true) s) : spX K xc g [.ref a] H (fun v _ => v = .bl true) E := by
  obtain ⟨s', h⟩ := h
  refine ⟨⟨[], fun _ => False⟩, [seal_ ns], [], ⟨rfl, fun n ds h => by simp at h, by simp, fun a ha => by simp at ha, fun a ha => ha.elim⟩, ?_, ?_⟩
  · refine RpL.one ?_
    simp only [Rp]
    refine ⟨a, ns, rfl, rfl, ?_⟩
    refine sqL_mono (F := H) (fun b o hb => ?_) hS
    exact Fz_of hb (by simp) fun q => q
  · rw [h]
    intro w' v H' _ r
    exact rp_bool r
end DL

namespace LW
open PySem DL
noncomputable section
@[simp] def c_FIGURES : FE := fC (.str "0123456789")
@[simp] def c_LETTERS : FE := fC (.str "abcdefghijklmnopqrstuvwxyz0123456789")
@[simp] def c_MOST_AGE : FE := fC (.int 6)
@[simp] def c_MOST_BUSES : FE := fC (.int 6)
@[simp] def c_MOST_DELAY : FE := fC (.int 20)
@[simp] def c_MOST_FIGURES : FE := fC (.int 4)
@[simp] def c_MOST_GUARDS : FE := fC (.int 16)
@[simp] def c_MOST_LINES : FE := fC (.int 8)
@[simp] def c_MOST_SOURCES : FE := fC (.int 3)
@[simp] def c_MOST_TICKS : FE := fC (.int 40)
@[simp] def c_MOST_X : FE := fC (.int 1000)
@[simp] def c_WORDS : FE := fC (.tuple [(.str "bus"), (.str "line"), (.str "source"), (.str "guard"), (.str "error"), (.str "breaker"), (.str "ticks"), (.str "over"), (.str "reach"), (.str "difference"), (.str "behind"), (.str "forward"), (.str "delay"), (.str "opens")])
def C1_common : FT := fun e s => (fB (fBin gGt2 (fVar 1) (fC (.int 0)))) e s
def B1_common : FS := fun e s => (sPar 0 1 (fCons (fVar 1) (fCons (fBin gMod (fVar 0) (fVar 1)) fNil))) e s
def F_common : FS := (sSeq (sPar 0 1 (fCons (fCall gAbs (fCons (fVar 0) fNil)) (fCons (fCall gAbs (fCons (fVar 1) fNil)) fNil)))
    (sSeq (sWhile C1_common B1_common)
    (sRet (fVar 0))))
def g_common : List Dat → Sto → Res Dat := runN 2 2 F_common
def F_frac : FS := (sSeq (sIf (fB (fBin gLt2 (fVar 1) (fC (.int 0)))) (sPar 0 1 (fCons (fUn gNeg (fVar 0)) (fCons (fUn gNeg (fVar 1)) fNil))) sNext)
    (sSeq (sSet 2 (fCallD g_common (fCons (fVar 0) (fCons (fVar 1) fNil))))
    (sRet (fTup (fCons (fBin gDiv (fVar 0) (fVar 2)) (fCons (fBin gDiv (fVar 1) (fVar 2)) fNil))))))
def g_frac : List Dat → Sto → Res Dat := runN 2 3 F_frac
def E1_is_frac : FE := fun e s => (fAndV (fUn (gIsi "int") (fVar 1)) (fNotV (fUn (gIsi "bool") (fVar 1)))) e s
def F_is_frac : FS := (sSeq (sIf (fOr (fNot (fB (fUn (gIsi "tuple") (fVar 0)))) (fB (fBin gNe (fCall gLen2 (fCons (fVar 0) fNil)) (fC (.int 2))))) (sRet (fC (.bool false))) sNext)
    (sSeq (sIf (fNot (fB (fCall gAll (fCons (fLc (fIter (fVar 0)) (gSet 1) cYes E1_is_frac [1]) fNil)))) (sRet (fC (.bool false))) sNext)
    (sRet (fAndV (fBin gGt2 (fBin gIx2 (fVar 0) (fC (.int 1))) (fC (.int 0))) (fBin gEq (fCallD g_common (fCons (fBin gIx2 (fVar 0) (fC (.int 0))) (fCons (fBin gIx2 (fVar 0) (fC (.int 1))) fNil))) (fC (.int 1)))))))
def g_is_frac : List Dat → Sto → Res Dat := runN 1 2 F_is_frac
def F_sign_of : FS := (sRet (fIf (fB (fBin gGt2 (fVar 0) (fC (.int 0)))) (fC (.int 1)) (fIf (fB (fBin gEq (fVar 0) (fC (.int 0)))) (fC (.int 0)) (fUn gNeg (fC (.int 1))))))
def g_sign_of : List Dat → Sto → Res Dat := runN 1 1 F_sign_of
def F_compare : FS := (sRet (fCallD g_sign_of (fCons (fBin gSub (fBin gMul2 (fBin gIx2 (fVar 0) (fC (.int 0))) (fBin gIx2 (fVar 1) (fC (.int 1)))) (fBin gMul2 (fBin gIx2 (fVar 1) (fC (.int 0))) (fBin gIx2 (fVar 0) (fC (.int 1))))) fNil)))
def g_compare : List Dat → Sto → Res Dat := runN 2 2 F_compare
def E1_is_name : FE := fun e s => (fBin gIn2 (fVar 1) c_LETTERS) e s
def F_is_name : FS := (sSeq (sIf (fOr (fNot (fB (fUn (gIsi "str") (fVar 0)))) (fOr (fNot (fB (fChain gLe gLe (fC (.int 1)) (fCall gLen2 (fCons (fVar 0) fNil)) (fC (.int 8))))) (fB (fBin gIn2 (fVar 0) c_WORDS)))) (sRet (fC (.bool false))) sNext)
    (sRet (fAndV (fBin gIn2 (fBin gIx2 (fVar 0) (fC (.int 0))) (fSl c_LETTERS fNo (fSome (fC (.int 26))))) (fCall gAll (fCons (fLc (fIter (fVar 0)) (gSet 1) cYes E1_is_name [1]) fNil)))))
def g_is_name : List Dat → Sto → Res Dat := runN 1 2 F_is_name
def F_is_whole : FS := (sRet (fAndV (fUn (gIsi "int") (fVar 0)) (fAndV (fNotV (fUn (gIsi "bool") (fVar 0))) (fChain gLe gLe (fVar 1) (fVar 0) (fVar 2)))))
def g_is_whole : List Dat → Sto → Res Dat := runN 3 3 F_is_whole
def E1_breakers_of : FE := fun e s => (fTup (fCons (fBin gIx2 (fVar 2) (fC (.int 0))) (fCons (fVar 3) fNil))) e s
def E2_breakers_of : FE := fun e s => (fTup (fCons (fBin gIx2 (fVar 4) (fC (.int 0))) (fCons (fC (.int 0)) fNil))) e s
def F_breakers_of : FS := (sSeq (sSet 1 (fLc2 (fIter (fBin gIx2 (fVar 0) (fC (.int 1)))) (gSet 2) cYes (fIter (fTup (fCons (fC (.int 0)) (fCons (fC (.int 1)) fNil)))) (gSet 3) cYes E1_breakers_of [2, 3] [3]))
    (sRet (fBin gAdd (fVar 1) (fLc (fIter (fBin gIx2 (fVar 0) (fC (.int 2)))) (gSet 4) cYes E2_breakers_of [4]))))
def g_breakers_of : List Dat → Sto → Res Dat := runN 1 5 F_breakers_of
def F_is_above : FS := (sRet (fAndV (fCallD g_is_frac (fCons (fVar 0) fNil)) (fAndV (fBin gGt2 (fBin gIx2 (fVar 0) (fC (.int 0))) (fC (.int 0))) (fAndV (fBin gLe2 (fBin gIx2 (fVar 0) (fC (.int 0))) c_MOST_X) (fBin gLe2 (fBin gIx2 (fVar 0) (fC (.int 1))) c_MOST_X)))))
def g_is_above : List Dat → Sto → Res Dat := runN 1 1 F_is_above
def F_is_told : FS := (sSeq (sIf (fOr (fNot (fB (fUn (gIsi "tuple") (fVar 0)))) (fOr (fB (fBin gEq (fCall gLen2 (fCons (fVar 0) fNil)) (fC (.int 0)))) (fNot (fB (fUn (gIsi "str") (fBin gIx2 (fVar 0) (fC (.int 0)))))))) (sRet (fC (.bool false))) sNext)
    (sSeq (sSet 3 (fBin gIx2 (fVar 0) (fC (.int 0))))
    (sSeq (sIf (fB (fBin gEq (fVar 3) (fC (.str "over")))) (sRet (fAndV (fBin gEq (fCall gLen2 (fCons (fVar 0) fNil)) (fC (.int 4))) (fAndV (fBin gIn2 (fBin gIx2 (fVar 0) (fC (.int 1))) (fVar 1)) (fAndV (fCallD g_is_above (fCons (fBin gIx2 (fVar 0) (fC (.int 2))) fNil)) (fUn (gIsi "bool") (fBin gIx2 (fVar 0) (fC (.int 3)))))))) sNext)
    (sSeq (sIf (fB (fBin gEq (fVar 3) (fC (.str "reach")))) (sRet (fAndV (fBin gEq (fCall gLen2 (fCons (fVar 0) fNil)) (fC (.int 3))) (fAndV (fBin gIn2 (fBin gIx2 (fVar 0) (fC (.int 1))) (fVar 1)) (fCallD g_is_above (fCons (fBin gIx2 (fVar 0) (fC (.int 2))) fNil))))) sNext)
    (sSeq (sIf (fB (fBin gEq (fVar 3) (fC (.str "difference")))) (sRet (fAndV (fBin gEq (fCall gLen2 (fCons (fVar 0) fNil)) (fC (.int 3))) (fAndV (fBin gIn2 (fBin gIx2 (fVar 0) (fC (.int 1))) (fVar 2)) (fCallD g_is_above (fCons (fBin gIx2 (fVar 0) (fC (.int 2))) fNil))))) sNext)
    (sRet (fAndV (fBin gEq (fVar 3) (fC (.str "behind"))) (fAndV (fBin gEq (fCall gLen2 (fCons (fVar 0) fNil)) (fC (.int 2))) (fBin gIn2 (fBin gIx2 (fVar 0) (fC (.int 1))) (fVar 1))))))))))
def g_is_told : List Dat → Sto → Res Dat := runN 3 4 F_is_told
def F_is_rules : FS := (sSeq (sIf (fOr (fNot (fB (fUn (gIsi "tuple") (fVar 0)))) (fOr (fB (fBin gNe (fCall gLen2 (fCons (fVar 0) fNil)) (fC (.int 4)))) (fNot (fB (fCallD g_is_frac (fCons (fBin gIx2 (fVar 0) (fC (.int 0))) fNil)))))) (sRet (fC (.bool false))) sNext)
    (sSeq (sAsg (fVar 0) (gTupT 4 (gsCons (gSet 1) (gsCons (gSet 2) (gsCons (gSet 3) (gsCons (gSet 4) gsNil))))))
    (sSeq (sIf (fOr (fB (fBin gGt2 (fCallD g_compare (fCons (fTup (fCons (fC (.int 0)) (fCons (fC (.int 1)) fNil))) (fCons (fVar 1) fNil))) (fC (.int 0)))) (fOr (fB (fBin gGe2 (fCallD g_compare (fCons (fVar 1) (fCons (fTup (fCons (fC (.int 1)) (fCons (fC (.int 1)) fNil))) fNil))) (fC (.int 0)))) (fB (fBin gGt2 (fBin gIx2 (fVar 1) (fC (.int 1))) c_MOST_X)))) (sRet (fC (.bool false))) sNext)
    (sRet (fAndV (fCallD g_is_whole (fCons (fVar 3) (fCons (fC (.int 1)) (fCons c_MOST_AGE fNil)))) (fAndV (fCallD g_is_whole (fCons (fVar 2) (fCons (fC (.int 1)) (fCons (fVar 3) fNil)))) (fCallD g_is_whole (fCons (fVar 4) (fCons (fC (.int 1)) (fCons c_MOST_TICKS fNil))))))))))
def g_is_rules : List Dat → Sto → Res Dat := runN 1 5 F_is_rules
def F_check : FS := (sIf (fNot (fB (fVar 0))) (sRaise 3 2 (fCons (fVar 1) (fCons (fVar 2) fNil))) sNext)
def g_check : List Dat → Sto → Res Dat := runF 3 3 F_check
def E1_check_lists : FE := fun e s => (fUn (gIsi "tuple") (fVar 10)) e s
def E2_check_lists : FE := fun e s => (fTup (fCons (fVar 11) fNil)) e s
def B3_check_lists : FS := fun e s => (sSeq (sDrop (fCall g_check (fCons (fAndV (fUn (gIsi "tuple") (fVar 7)) (fAndV (fBin gGt2 (fCall gLen2 (fCons (fVar 7) fNil)) (fC (.int 0))) (fCallD g_is_name (fCons (fBin gIx2 (fVar 7) (fC (.int 0))) fNil)))) (fCons (fC .none) (fCons (fC (.str "name")) fNil)))))
    (sSeq (sDrop (fCall g_check (fCons (fHas 6 true (fBin gIx2 (fVar 7) (fC (.int 0)))) (fCons (fBin gIx2 (fVar 7) (fC (.int 0))) (fCons (fC (.str "told twice")) fNil)))))
    (sPutOwn 6 (fBin gIx2 (fVar 7) (fC (.int 0))) (fC (.bool true))))) e s
def B4_check_lists : FS := fun e s => (sSeq (sDrop (fCall g_check (fCons (fAndV (fBin gEq (fCall gLen2 (fCons (fVar 8) fNil)) (fC (.int 4))) (fAndV (fBin gIn2 (fBin gIx2 (fVar 8) (fC (.int 1))) (fVar 1)) (fAndV (fBin gIn2 (fBin gIx2 (fVar 8) (fC (.int 2))) (fVar 1)) (fBin gNe (fBin gIx2 (fVar 8) (fC (.int 1))) (fBin gIx2 (fVar 8) (fC (.int 2))))))) (fCons (fBin gIx2 (fVar 8) (fC (.int 0))) (fCons (fC (.str "buses")) fNil)))))
    (sDrop (fCall g_check (fCons (fCallD g_is_whole (fCons (fBin gIx2 (fVar 8) (fC (.int 3))) (fCons (fC (.int 1)) (fCons c_MOST_X fNil)))) (fCons (fBin gIx2 (fVar 8) (fC (.int 0))) (fCons (fC (.str "number")) fNil)))))) e s
def B5_check_lists : FS := fun e s => (sSeq (sDrop (fCall g_check (fCons (fAndV (fBin gEq (fCall gLen2 (fCons (fVar 9) fNil)) (fC (.int 3))) (fBin gIn2 (fBin gIx2 (fVar 9) (fC (.int 1))) (fVar 1))) (fCons (fBin gIx2 (fVar 9) (fC (.int 0))) (fCons (fC (.str "buses")) fNil)))))
    (sDrop (fCall g_check (fCons (fCallD g_is_whole (fCons (fBin gIx2 (fVar 9) (fC (.int 2))) (fCons (fC (.int 1)) (fCons c_MOST_X fNil)))) (fCons (fBin gIx2 (fVar 9) (fC (.int 0))) (fCons (fC (.str "number")) fNil)))))) e s
def F_check_lists : FS := (sSeq (sDrop (fCall g_check (fCons (fAndV (fUn (gIsi "tuple") (fVar 0)) (fBin gEq (fCall gLen2 (fCons (fVar 0) fNil)) (fC (.int 5)))) (fCons (fC .none) (fCons (fC (.str "form")) fNil)))))
    (sSeq (sDrop (fCall g_check (fCons (fCall gAll (fCons (fLc (fIter (fVar 0)) (gSet 10) cYes E1_check_lists [10]) fNil)) (fCons (fC .none) (fCons (fC (.str "form")) fNil)))))
    (sSeq (sAsg (fVar 0) (gTupT 5 (gsCons (gSet 1) (gsCons (gSet 2) (gsCons (gSet 3) (gsCons (gSet 4) (gsCons (gSet 5) gsNil)))))))
    (sSeq (sDrop (fCall g_check (fCons (fAndV (fChain gLe gLe (fC (.int 1)) (fCall gLen2 (fCons (fVar 1) fNil)) c_MOST_BUSES) (fBin gLe2 (fCall gLen2 (fCons (fVar 2) fNil)) c_MOST_LINES)) (fCons (fC .none) (fCons (fC (.str "many")) fNil)))))
    (sSeq (sDrop (fCall g_check (fCons (fAndV (fChain gLe gLe (fC (.int 1)) (fCall gLen2 (fCons (fVar 3) fNil)) c_MOST_SOURCES) (fBin gLe2 (fCall gLen2 (fCons (fVar 4) fNil)) c_MOST_GUARDS)) (fCons (fC .none) (fCons (fC (.str "many")) fNil)))))
    (sSeq (sDict 6)
    (sSeq (sFor (fIter (fLst (fStar (fLc (fIter (fVar 1)) (gSet 11) cYes E2_check_lists [11]) (fStar (fVar 2) (fStar (fVar 3) (fStar (fVar 4) fNil)))))) (gSet 7) B3_check_lists)
    (sSeq (sFor (fIter (fVar 2)) (gSet 8) B4_check_lists)
    (sFor (fIter (fVar 3)) (gSet 9) B5_check_lists)))))))))
def g_check_lists : List Dat → Sto → Res Dat := runF 1 12 F_check_lists
def E1_check_net : FE := fun e s => (fBin gIx2 (fVar 10) (fC (.int 0))) e s
def E2_check_net : FE := fun e s => (fBin gIn2 (fVar 11) (fVar 6)) e s
def E3_check_net : FE := fun e s => (fBin gLt2 (fVar 11) (fVar 12)) e s
def B4_check_net : FS := fun e s => (sSeq (sDrop (fCall g_check (fCons (fAndV (fBin gEq (fCall gLen2 (fCons (fVar 8) fNil)) (fC (.int 4))) (fCallD g_is_told (fCons (fBin gIx2 (fVar 8) (fC (.int 1))) (fCons (fVar 6) (fCons (fVar 7) fNil))))) (fCons (fBin gIx2 (fVar 8) (fC (.int 0))) (fCons (fC (.str "told")) fNil)))))
    (sSeq (sDrop (fCall g_check (fCons (fCallD g_is_whole (fCons (fBin gIx2 (fVar 8) (fC (.int 2))) (fCons (fC (.int 0)) (fCons c_MOST_DELAY fNil)))) (fCons (fBin gIx2 (fVar 8) (fC (.int 0))) (fCons (fC (.str "delay")) fNil)))))
    (sSeq (sSet 9 (fBin gIx2 (fVar 8) (fC (.int 3))))
    (sSeq (sDrop (fCall g_check (fCons (fAndV (fUn (gIsi "tuple") (fVar 9)) (fBin gGt2 (fCall gLen2 (fCons (fVar 9) fNil)) (fC (.int 0)))) (fCons (fBin gIx2 (fVar 8) (fC (.int 0))) (fCons (fC (.str "opens")) fNil)))))
    (sSeq (sDrop (fCall g_check (fCons (fCall gAll (fCons (fLc (fIter (fVar 9)) (gSet 11) cYes E2_check_net [11]) fNil)) (fCons (fBin gIx2 (fVar 8) (fC (.int 0))) (fCons (fC (.str "opens")) fNil)))))
    (sDrop (fCall g_check (fCons (fCall gAll (fCons (fLc (fItA gZip (fCons (fVar 9) (fCons (fSl (fVar 9) (fSome (fC (.int 1))) fNo) fNil))) (gTupT 2 (gsCons (gSet 11) (gsCons (gSet 12) gsNil))) cYes E3_check_net [11, 12]) fNil)) (fCons (fBin gIx2 (fVar 8) (fC (.int 0))) (fCons (fC (.str "opens")) fNil)))))))))) e s
def F_check_net : FS := (sSeq (sDrop (fCall g_check_lists (fCons (fVar 0) fNil)))
    (sSeq (sAsg (fVar 0) (gTupT 5 (gsCons (gSet 1) (gsCons (gSet 2) (gsCons (gSet 3) (gsCons (gSet 4) (gsCons (gSet 5) gsNil)))))))
    (sSeq (sAsg (fTup (fCons (fCallD g_breakers_of (fCons (fVar 0) fNil)) (fCons (fLst (fStar (fVar 1) (fStar (fLc (fIter (fVar 2)) (gSet 10) cYes E1_check_net [10]) fNil))) fNil))) (gTupT 2 (gsCons (gSet 6) (gsCons (gSet 7) gsNil))))
    (sSeq (sFor (fIter (fVar 4)) (gSet 8) B4_check_net)
    (sDrop (fCall g_check (fCons (fCallD g_is_rules (fCons (fVar 5) fNil)) (fCons (fC .none) (fCons (fC (.str "rules")) fNil)))))))))
def g_check_net : List Dat → Sto → Res Dat := runF 1 13 F_check_net
def C1_LineReader_skip : FT := fun e s => (fAnd (fB (fBin gLt2 (oFld 1 2 (fVar 0)) (fCall gLen2 (fCons (oFld 1 0 (fVar 0)) fNil)))) (fB (fBin gEq (fBin gIx2 (oFld 1 0 (fVar 0)) (oFld 1 2 (fVar 0))) (fC (.str " "))))) e s
def B1_LineReader_skip : FS := fun e s => (soFldAdd 1 2 (fVar 0) (fC (.int 1))) e s
def F_LineReader_skip : FS := (sWhile C1_LineReader_skip B1_LineReader_skip)
def g_LineReader_skip : List Dat → Sto → Res Dat := runN 1 1 F_LineReader_skip
def C1_LineReader_end_of : FT := fun e s => (fAnd (fB (fBin gLt2 (fVar 2) (fCall gLen2 (fCons (oFld 1 0 (fVar 0)) fNil)))) (fB (fBin gIn2 (fBin gIx2 (oFld 1 0 (fVar 0)) (fVar 2)) (fVar 1)))) e s
def B1_LineReader_end_of : FS := fun e s => (sAugAdd 2 (fC (.int 1))) e s
def F_LineReader_end_of : FS := (sSeq (sSet 2 (oFld 1 2 (fVar 0)))
    (sSeq (sWhile C1_LineReader_end_of B1_LineReader_end_of)
    (sRet (fVar 2))))
def g_LineReader_end_of : List Dat → Sto → Res Dat := runN 2 3 F_LineReader_end_of
def F_LineReader_word : FS := (sSeq (sDrop (oMeth 1 g_LineReader_skip (fVar 0) fNil))
    (sRet (fSl (oFld 1 0 (fVar 0)) (fSome (oFld 1 2 (fVar 0))) (fSome (oMeth 1 g_LineReader_end_of (fVar 0) (fCons c_LETTERS fNil))))))
def g_LineReader_word : List Dat → Sto → Res Dat := runN 1 1 F_LineReader_word
def F_LineReader_wrong : FS := (sRaise 2 2 (fCons (oFld 1 1 (fVar 0)) (fCons (fBin gAdd (oFld 1 2 (fVar 0)) (fC (.int 1))) fNil)))
def g_LineReader_wrong : List Dat → Sto → Res Dat := runF 1 1 F_LineReader_wrong
def F_LineReader_name_next : FS := (sSeq (sSet 1 (oMeth 1 g_LineReader_word (fVar 0) fNil))
    (sSeq (sIf (fOr (fNot (fB (fChain gLe gLe (fC (.int 1)) (fCall gLen2 (fCons (fVar 1) fNil)) (fC (.int 8))))) (fOr (fB (fBin gIn2 (fVar 1) c_WORDS)) (fB (fBin gIn2 (fBin gIx2 (fVar 1) (fC (.int 0))) c_FIGURES)))) (sDrop (oMethR 1 g_LineReader_wrong (fVar 0) fNil)) sNext)
    (sSeq (soFldAdd 1 2 (fVar 0) (fCall gLen2 (fCons (fVar 1) fNil)))
    (sRet (fVar 1)))))
def g_LineReader_name_next : List Dat → Sto → Res Dat := runF 1 2 F_LineReader_name_next
def F_LineReader_taken : FS := (sSeq (sIf (fB (fBin gEq (oMeth 1 g_LineReader_word (fVar 0) fNil) (fVar 1))) (sSeq (soFldAdd 1 2 (fVar 0) (fCall gLen2 (fCons (fVar 1) fNil)))
    (sRet (fC (.bool true)))) sNext)
    (sRet (fC (.bool false))))
def g_LineReader_taken : List Dat → Sto → Res Dat := runN 2 2 F_LineReader_taken
def F_LineReader_want : FS := (sIf (fNot (fB (oMeth 1 g_LineReader_taken (fVar 0) (fCons (fVar 1) fNil)))) (sDrop (oMethR 1 g_LineReader_wrong (fVar 0) fNil)) sNext)
def g_LineReader_want : List Dat → Sto → Res Dat := runF 2 2 F_LineReader_want
def F_LineReader_apart : FS := (sSeq (sIf (fB (fBin gNotIn2 (fSl (oFld 1 0 (fVar 0)) (fSome (oFld 1 2 (fVar 0))) (fSome (fBin gAdd (oFld 1 2 (fVar 0)) (fC (.int 1))))) (fTup (fCons (fC (.str "")) (fCons (fC (.str " ")) (fCons (fC (.str "#")) fNil)))))) (sDrop (oMethR 1 g_LineReader_wrong (fVar 0) fNil)) sNext)
    (sRet (fVar 1)))
def g_LineReader_apart : List Dat → Sto → Res Dat := runF 2 2 F_LineReader_apart
def F_LineReader_breaker : FS := (sSeq (sPar 1 2 (fCons (oMethR 1 g_LineReader_name_next (fVar 0) fNil) (fCons (fC (.int 0)) fNil)))
    (sSeq (sIf (fAnd (fB (fBin gLt2 (oFld 1 2 (fVar 0)) (fCall gLen2 (fCons (oFld 1 0 (fVar 0)) fNil)))) (fB (fBin gEq (fBin gIx2 (oFld 1 0 (fVar 0)) (oFld 1 2 (fVar 0))) (fC (.str "."))))) (sSeq (soFldAdd 1 2 (fVar 0) (fC (.int 1)))
    (sSeq (sIf (fB (fBin gNotIn2 (fSl (oFld 1 0 (fVar 0)) (fSome (oFld 1 2 (fVar 0))) (fSome (fBin gAdd (oFld 1 2 (fVar 0)) (fC (.int 1))))) (fTup (fCons (fC (.str "0")) (fCons (fC (.str "1")) fNil))))) (sDrop (oMethR 1 g_LineReader_wrong (fVar 0) fNil)) sNext)
    (sSeq (sSet 2 (fCall gInt2 (fCons (fBin gIx2 (oFld 1 0 (fVar 0)) (oFld 1 2 (fVar 0))) fNil)))
    (sSeq (soFldAdd 1 2 (fVar 0) (fC (.int 1)))
    (sRet (fTup (fCons (oMethR 1 g_LineReader_apart (fVar 0) (fCons (fTup (fCons (fVar 1) (fCons (fVar 2) fNil))) fNil)) (fCons (fC (.bool true)) fNil)))))))) sNext)
    (sRet (fTup (fCons (oMethR 1 g_LineReader_apart (fVar 0) (fCons (fTup (fCons (fVar 1) (fCons (fVar 2) fNil))) fNil)) (fCons (fC (.bool false)) fNil))))))
def g_LineReader_breaker : List Dat → Sto → Res Dat := runF 1 3 F_LineReader_breaker
def F_read_breaker : FS := (sSeq (sDrop (oMeth 1 g_LineReader_skip (fVar 0) fNil))
    (sSeq (sSet 2 (oFld 1 2 (fVar 0)))
    (sSeq (sAsg (oMethR 1 g_LineReader_breaker (fVar 0) fNil) (gTupT 2 (gsCons (gSet 3) (gsCons (gSet 4) gsNil))))
    (sSeq (sIf (fB (fBin gNe (fBin gIn2 (fBin gIx2 (fVar 3) (fC (.int 0))) (fVar 1)) (fVar 4))) (sSeq (soFld 1 2 (fVar 0) (fVar 2))
    (sDrop (oMethR 1 g_LineReader_wrong (fVar 0) fNil))) sNext)
    (sRet (fVar 3))))))
def g_read_breaker : List Dat → Sto → Res Dat := runF 2 5 F_read_breaker
def F_LineReader_number_next : FS := (sSeq (sDrop (oMeth 1 g_LineReader_skip (fVar 0) fNil))
    (sSeq (sSet 1 (fSl (oFld 1 0 (fVar 0)) (fSome (oFld 1 2 (fVar 0))) (fSome (oMeth 1 g_LineReader_end_of (fVar 0) (fCons c_FIGURES fNil)))))
    (sSeq (sIf (fOr (fNot (fB (fChain gLe gLe (fC (.int 1)) (fCall gLen2 (fCons (fVar 1) fNil)) c_MOST_FIGURES))) (fOr (fAnd (fB (fBin gEq (fBin gIx2 (fVar 1) (fC (.int 0))) (fC (.str "0")))) (fB (fBin gNe (fVar 1) (fC (.str "0"))))) (fB (fBin gGt2 (fCall gInt2 (fCons (fVar 1) fNil)) c_MOST_X)))) (sDrop (oMethR 1 g_LineReader_wrong (fVar 0) fNil)) sNext)
    (sSeq (soFldAdd 1 2 (fVar 0) (fCall gLen2 (fCons (fVar 1) fNil)))
    (sRet (fCall gInt2 (fCons (fVar 1) fNil)))))))
def g_LineReader_number_next : List Dat → Sto → Res Dat := runF 1 2 F_LineReader_number_next
def F_LineReader_fraction : FS := (sSeq (sPar 1 2 (fCons (oMethR 1 g_LineReader_number_next (fVar 0) fNil) (fCons (fC (.int 1)) fNil)))
    (sSeq (sIf (fAnd (fB (fBin gLt2 (oFld 1 2 (fVar 0)) (fCall gLen2 (fCons (oFld 1 0 (fVar 0)) fNil)))) (fB (fBin gEq (fBin gIx2 (oFld 1 0 (fVar 0)) (oFld 1 2 (fVar 0))) (fC (.str "/"))))) (sSeq (soFldAdd 1 2 (fVar 0) (fC (.int 1)))
    (sSeq (sSet 3 (oFld 1 2 (fVar 0)))
    (sSeq (sIf (fOr (fB (fBin gEq (oFld 1 2 (fVar 0)) (fCall gLen2 (fCons (oFld 1 0 (fVar 0)) fNil)))) (fB (fBin gEq (fBin gIx2 (oFld 1 0 (fVar 0)) (oFld 1 2 (fVar 0))) (fC (.str " "))))) (sDrop (oMethR 1 g_LineReader_wrong (fVar 0) fNil)) sNext)
    (sSeq (sSet 2 (oMethR 1 g_LineReader_number_next (fVar 0) fNil))
    (sIf (fB (fBin gEq (fVar 2) (fC (.int 0)))) (sSeq (soFld 1 2 (fVar 0) (fVar 3))
    (sDrop (oMethR 1 g_LineReader_wrong (fVar 0) fNil))) sNext))))) sNext)
    (sRet (oMethR 1 g_LineReader_apart (fVar 0) (fCons (fCallD g_frac (fCons (fVar 1) (fCons (fVar 2) fNil))) fNil)))))
def g_LineReader_fraction : List Dat → Sto → Res Dat := runF 1 4 F_LineReader_fraction
def F_read_told : FS := (sSeq (sIf (fB (oMeth 1 g_LineReader_taken (fVar 0) (fCons (fC (.str "over")) fNil))) (sSeq (sPar 2 3 (fCons (fCall g_read_breaker (fCons (fVar 0) (fCons (fVar 1) fNil))) (fCons (oMethR 1 g_LineReader_fraction (fVar 0) fNil) fNil)))
    (sRet (fTup (fCons (fC (.str "over")) (fCons (fVar 2) (fCons (fVar 3) (fCons (oMeth 1 g_LineReader_taken (fVar 0) (fCons (fC (.str "forward")) fNil)) fNil))))))) sNext)
    (sSeq (sIf (fB (oMeth 1 g_LineReader_taken (fVar 0) (fCons (fC (.str "reach")) fNil))) (sSeq (sSet 2 (fCall g_read_breaker (fCons (fVar 0) (fCons (fVar 1) fNil))))
    (sRet (fTup (fCons (fC (.str "reach")) (fCons (fVar 2) (fCons (oMethR 1 g_LineReader_fraction (fVar 0) fNil) fNil)))))) sNext)
    (sSeq (sIf (fB (oMeth 1 g_LineReader_taken (fVar 0) (fCons (fC (.str "difference")) fNil))) (sSeq (sSet 4 (oMethR 1 g_LineReader_name_next (fVar 0) fNil))
    (sRet (fTup (fCons (fC (.str "difference")) (fCons (fVar 4) (fCons (oMethR 1 g_LineReader_fraction (fVar 0) fNil) fNil)))))) sNext)
    (sSeq (sDrop (oMethR 1 g_LineReader_want (fVar 0) (fCons (fC (.str "behind")) fNil)))
    (sRet (fTup (fCons (fC (.str "behind")) (fCons (fCall g_read_breaker (fCons (fVar 0) (fCons (fVar 1) fNil))) fNil))))))))
def g_read_told : List Dat → Sto → Res Dat := runF 2 5 F_read_told
def F_LineReader_is_over : FS := (sSeq (sDrop (oMeth 1 g_LineReader_skip (fVar 0) fNil))
    (sRet (fOrV (fBin gEq (oFld 1 2 (fVar 0)) (fCall gLen2 (fCons (oFld 1 0 (fVar 0)) fNil))) (fBin gEq (fBin gIx2 (oFld 1 0 (fVar 0)) (oFld 1 2 (fVar 0))) (fC (.str "#"))))))
def g_LineReader_is_over : List Dat → Sto → Res Dat := runN 1 1 F_LineReader_is_over
def C1_read_guard : FT := fun e s => (fNot (fB (oMeth 1 g_LineReader_is_over (fVar 0) fNil))) e s
def B1_read_guard : FS := fun e s => (sAppend 5 (fCall g_read_breaker (fCons (fVar 0) (fCons (fVar 1) fNil)))) e s
def F_read_guard : FS := (sSeq (sSet 2 (oMethR 1 g_LineReader_name_next (fVar 0) fNil))
    (sSeq (sSet 3 (fCall g_read_told (fCons (fVar 0) (fCons (fVar 1) fNil))))
    (sSeq (sDrop (oMethR 1 g_LineReader_want (fVar 0) (fCons (fC (.str "delay")) fNil)))
    (sSeq (sSet 4 (oMethR 1 g_LineReader_apart (fVar 0) (fCons (oMethR 1 g_LineReader_number_next (fVar 0) fNil) fNil)))
    (sSeq (sDrop (oMethR 1 g_LineReader_want (fVar 0) (fCons (fC (.str "opens")) fNil)))
    (sSeq (sOwn 5 (fCons (fCall g_read_breaker (fCons (fVar 0) (fCons (fVar 1) fNil))) fNil))
    (sSeq (sWhile C1_read_guard B1_read_guard)
    (sFreeze 5 (sRet (fTup (fCons (fVar 2) (fCons (fVar 3) (fCons (fVar 4) (fCons (fCall gTupOf2 (fCons (fCall gSortD (fCons (fVar 5) fNil)) fNil)) fNil))))))))))))))
def g_read_guard : List Dat → Sto → Res Dat := runF 2 6 F_read_guard
def E1_read_line : FE := fun e s => (fBin gIx2 (fVar 7) (fC (.int 0))) e s
def F_read_line : FS := (sSeq (sIf (fB (fBin gIn2 (oMeth 1 g_LineReader_word (fVar 0) fNil) (fBin gIx2 (fVar 1) (fC (.int 4))))) (sDrop (oMethR 1 g_LineReader_wrong (fVar 0) fNil)) sNext)
    (sSeq (sIf (fB (oMeth 1 g_LineReader_taken (fVar 0) (fCons (fC (.str "bus")) fNil))) (sAppendC (fBin gIx2 (fVar 1) (fC (.int 0))) (oMethR 1 g_LineReader_name_next (fVar 0) fNil)) (sIf (fB (oMeth 1 g_LineReader_taken (fVar 0) (fCons (fC (.str "line")) fNil))) (sSeq (sPar3 2 3 4 (fCons (oMethR 1 g_LineReader_name_next (fVar 0) fNil) (fCons (oMethR 1 g_LineReader_name_next (fVar 0) fNil) (fCons (oMethR 1 g_LineReader_name_next (fVar 0) fNil) fNil))))
    (sAppendC (fBin gIx2 (fVar 1) (fC (.int 1))) (fTup (fCons (fVar 2) (fCons (fVar 3) (fCons (fVar 4) (fCons (oMethR 1 g_LineReader_apart (fVar 0) (fCons (oMethR 1 g_LineReader_number_next (fVar 0) fNil) fNil)) fNil))))))) (sIf (fB (oMeth 1 g_LineReader_taken (fVar 0) (fCons (fC (.str "source")) fNil))) (sSeq (sPar 2 5 (fCons (oMethR 1 g_LineReader_name_next (fVar 0) fNil) (fCons (oMethR 1 g_LineReader_name_next (fVar 0) fNil) fNil)))
    (sAppendC (fBin gIx2 (fVar 1) (fC (.int 2))) (fTup (fCons (fVar 2) (fCons (fVar 5) (fCons (oMethR 1 g_LineReader_apart (fVar 0) (fCons (oMethR 1 g_LineReader_number_next (fVar 0) fNil) fNil)) fNil)))))) (sIf (fB (oMeth 1 g_LineReader_taken (fVar 0) (fCons (fC (.str "guard")) fNil))) (sAppendC (fBin gIx2 (fVar 1) (fC (.int 3))) (fCall g_read_guard (fCons (fVar 0) (fCons (fLcC (fBin gIx2 (fVar 1) (fC (.int 1))) (gSet 7) cYes E1_read_line [7]) fNil)))) (sIf (fB (oMeth 1 g_LineReader_taken (fVar 0) (fCons (fC (.str "error")) fNil))) (sItem2 (fBin gIx2 (fVar 1) (fC (.int 4))) (fC (.str "error")) (fTup (fCons (oMethR 1 g_LineReader_fraction (fVar 0) fNil) fNil))) (sIf (fB (oMeth 1 g_LineReader_taken (fVar 0) (fCons (fC (.str "breaker")) fNil))) (sSeq (sSet 6 (oMethR 1 g_LineReader_apart (fVar 0) (fCons (oMethR 1 g_LineReader_number_next (fVar 0) fNil) fNil)))
    (sItem2 (fBin gIx2 (fVar 1) (fC (.int 4))) (fC (.str "breaker")) (fTup (fCons (fVar 6) (fCons (oMethR 1 g_LineReader_apart (fVar 0) (fCons (oMethR 1 g_LineReader_number_next (fVar 0) fNil) fNil)) fNil))))) (sSeq (sDrop (oMethR 1 g_LineReader_want (fVar 0) (fCons (fC (.str "ticks")) fNil)))
    (sItem2 (fBin gIx2 (fVar 1) (fC (.int 4))) (fC (.str "ticks")) (fTup (fCons (oMethR 1 g_LineReader_apart (fVar 0) (fCons (oMethR 1 g_LineReader_number_next (fVar 0) fNil) fNil)) fNil))))))))))
    (sIf (fNot (fB (oMeth 1 g_LineReader_is_over (fVar 0) fNil))) (sDrop (oMethR 1 g_LineReader_wrong (fVar 0) fNil)) sNext)))
def g_read_line : List Dat → Sto → Res Dat := runF 2 8 F_read_line
def F_LineReader___init__ : FS := (sSeq (soFld 1 0 (fVar 0) (fVar 1))
    (sSeq (soFld 1 1 (fVar 0) (fVar 2))
    (soFld 1 2 (fVar 0) (fC (.int 0)))))
def g_LineReader___init__ : List Dat → Sto → Res Dat := runN 3 3 F_LineReader___init__
def B1_read_net : FS := fun e s => (sSeq (sSet 7 (oMake 1 g_LineReader___init__ (fCons (fVar 4) (fCons (fVar 3) fNil))))
    (sIf (fNot (fB (oMeth 1 g_LineReader_is_over (fVar 7) fNil))) (sDrop (fCall g_read_line (fCons (fVar 7) (fCons (fVar 1) fNil)))) sNext)) e s
def E2_read_net : FE := fun e s => (fCall gTupOf2 (fCons (fVar 8) fNil)) e s
def F_read_net : FS := (sSeq (sIf (fNot (fB (fUn (gIsi "str") (fVar 0)))) (sRaise 2 2 (fCons (fC (.int 0)) (fCons (fC (.int 0)) fNil))) sNext)
    (sSeq (sPar 1 2 (fCons (fTup (fCons (fCellL fNil) (fCons (fCellL fNil) (fCons (fCellL fNil) (fCons (fCellL fNil) (fCons fCellD fNil)))))) (fCons (fSplit (fVar 0) (fC (.str "\n"))) fNil)))
    (sSeq (sFor (fItA gEnumK (fCons (fVar 2) (fCons (fC (.int 1)) fNil))) (gTupT 2 (gsCons (gSet 3) (gsCons (gSet 4) gsNil))) B1_read_net)
    (sSeq (sSet 5 (fBin gIx2 (fVar 1) (fC (.int 4))))
    (sSeq (sIf (fB (fBin gLt2 (fCall gLen2 (fCons (fVar 5) fNil)) (fC (.int 3)))) (sRaise 2 2 (fCons (fCall gLen2 (fCons (fVar 2) fNil)) (fCons (fBin gAdd (fCall gLen2 (fCons (fBin gIx2 (fVar 2) (fUn gNeg (fC (.int 1)))) fNil)) (fC (.int 1))) fNil))) sNext)
    (sSeq (sSet 6 (fTup (fStar (fLc (fIter (fSl (fVar 1) fNo (fSome (fC (.int 4))))) (gSet 8) cYes E2_read_net [8]) (fCons (fTup (fStar (fBin gIx2 (fVar 5) (fC (.str "error"))) (fStar (fBin gIx2 (fVar 5) (fC (.str "breaker"))) (fStar (fBin gIx2 (fVar 5) (fC (.str "ticks"))) fNil)))) fNil))))
    (sSeq (sDrop (fCall g_check_net (fCons (fVar 6) fNil)))
    (sRet (fVar 6)))))))))
def g_read_net : List Dat → Sto → Res Dat := gTidy (runF 1 9 F_read_net)
def F__law_cell_at : FS := (sSeq (sIf (fB (fBin gLt2 (fVar 1) (fCall gLen2 (fCons (fVar 0) fNil)))) (sRet (fBin gIx2 (fVar 0) (fVar 1))) sNext)
    (sRet (fC (.int 0))))
def g__law_cell_at : List Dat → Sto → Res Dat := runN 2 2 F__law_cell_at
def F__law_draw : FS := (sSeq (sSet 3 (fTup (fCons (fC (.int 1000003)) (fCons (fC (.int 1000033)) (fCons (fC (.int 1000037)) (fCons (fC (.int 1000039)) (fCons (fC (.int 1000081)) (fCons (fC (.int 1000099)) (fCons (fC (.int 1000117)) (fCons (fC (.int 1000121)) (fCons (fC (.int 1000133)) (fCons (fC (.int 1000151)) (fCons (fC (.int 1000159)) (fCons (fC (.int 1000171)) (fCons (fC (.int 1000183)) (fCons (fC (.int 1000187)) (fCons (fC (.int 1000193)) (fCons (fC (.int 1000199)) fNil))))))))))))))))))
    (sRet (fBin gMod (fBin gMod (fCall gInt2 (fCons (fBin gAdd (fBin gMul2 (fVar 0) (fC (.int 48271))) (fBin gMul2 (fVar 1) (fC (.int 69621)))) fNil)) (fBin gIx2 (fVar 3) (fBin gMod (fCall gInt2 (fCons (fVar 1) fNil)) (fC (.int 16))))) (fVar 2))))
def g__law_draw : List Dat → Sto → Res Dat := runN 3 4 F__law_draw
def B1__law_number : FS := fun e s => (sSet 3 (fBin gMul2 (fVar 3) (fC (.int 1009)))) e s
def F__law_number : FS := (sSeq (sSet 3 (fC (.int 1)))
    (sSeq (sFor (fItA gRng1 (fCons (fBin gMod (fCall gInt2 (fCons (fVar 1) fNil)) (fC (.int 24))) fNil)) (gSet 4) B1__law_number)
    (sSeq (sSet 5 (fBin gDiv (fBin gSub (fVar 0) (fBin gPow (fC (.int 10)) (fC (.int 18)))) (fVar 3)))
    (sSeq (sIf (fB (fBin gGt2 (fVar 5) (fC (.int 0)))) (sRet (fBin gMod (fBin gMod (fCall gInt2 (fCons (fVar 5) fNil)) (fC (.int 1009))) (fVar 2))) sNext)
    (sSeq (sSet 6 (fBin gMod (fCall gInt2 (fCons (fVar 0) fNil)) (fC (.int 1000003))))
    (sRet (fBin gMod (fCallD g__law_draw (fCons (fBin gMul2 (fBin gAdd (fVar 6) (fBin gMul2 (fC (.int 977)) (fVar 1))) (fBin gAdd (fBin gAdd (fVar 6) (fBin gMul2 (fC (.int 31)) (fVar 1))) (fC (.int 5)))) (fCons (fBin gAdd (fBin gMod (fCall gInt2 (fCons (fVar 1) fNil)) (fC (.int 9))) (fC (.int 1))) (fCons (fC (.int 999983)) fNil)))) (fVar 2))))))))
def g__law_number : List Dat → Sto → Res Dat := runN 3 7 F__law_number
def F__law_next : FS := (sSeq (sItem2 (fVar 0) (fC (.int 2)) (fBin gAdd (fBin gIx2 (fVar 0) (fC (.int 2))) (fC (.int 1))))
    (sSeq (sSet 2 (fBin gDiv (fBin gIx2 (fVar 0) (fC (.int 2))) (fC (.int 12))))
    (sSeq (sSet 3 (fBin gAdd (fCallD g__law_cell_at (fCons (fBin gIx2 (fVar 0) (fC (.int 0))) (fCons (fBin gAdd (fBin gIx2 (fVar 0) (fC (.int 1))) (fVar 2)) fNil))) (fBin gMul2 (fC (.int 31)) (fVar 2))))
    (sRet (fCallD g__law_number (fCons (fVar 3) (fCons (fBin gAdd (fBin gMod (fCall gInt2 (fCons (fBin gIx2 (fVar 0) (fC (.int 2))) fNil)) (fC (.int 12))) (fC (.int 1))) (fCons (fVar 1) fNil))))))))
def g__law_next : List Dat → Sto → Res Dat := runN 2 4 F__law_next
def F__law_pick : FS := (sRet (fBin gIx2 (fVar 1) (fCallD g__law_next (fCons (fVar 0) (fCons (fCall gLen2 (fCons (fVar 1) fNil)) fNil)))))
def g__law_pick : List Dat → Sto → Res Dat := runN 2 2 F__law_pick
def F__law_place : FS := (sSeq (sTryAs 1 2 0 1 [3] (sDrop (fCall g_read_net (fCons (fVar 0) fNil))) (sRet (fC (.str "net"))))
    (sRet (fC .none)))
def g__law_place : List Dat → Sto → Res Dat := gTidy (runN 1 2 F__law_place)
def B1_law : FS := fun e s => (sSeq (sIf (fB (fBin gNe (fCallD g__law_place (fCons (fBin gAdd (fVar 3) (fVar 6)) fNil)) (fTup (fCons (fC (.int 7)) (fCons (fVar 7) fNil))))) (sRet (fC (.bool false))) sNext)
    (sIf (fB (fBin gNe (fCallD g__law_place (fCons (fBin gAdd (fBin gAdd (fVar 4) (fC (.str "\n  "))) (fVar 6)) fNil)) (fTup (fCons (fC (.int 9)) (fCons (fIf (fB (fBin gEq (fSl (fVar 6) fNo (fSome (fC (.int 5)))) (fC (.str "ticks")))) (fC (.int 3)) (fBin gAdd (fVar 7) (fC (.int 2)))) fNil))))) (sRet (fC (.bool false))) sNext)) e s
def F_law : FS := (sSeq (sCell 1 (fCons (fSl (fVar 0) fNo (fSome (fC (.int 63)))) (fCons (fC (.int 0)) (fCons (fC (.int 0)) fNil))))
    (sSeq (sSet 2 (fBin gMul2 (fC (.str " ")) (fBin gAdd (fC (.int 1)) (fCallD g__law_next (fCons (fVar 1) (fCons (fC (.int 3)) fNil))))))
    (sSeq (sSet 3 (fBin gAdd (fBin gAdd (fC (.str "bus a\n\x62us")) (fVar 2)) (fC (.str "b\n\x6cine ab a b 10\n\x73ource g a 3\n\x65rror 1/10\n\x62reaker 1 2\n"))))
    (sSeq (sSet 4 (fBin gAdd (fVar 3) (fC (.str "ticks 10\n\x67uard d difference ab 1/1000 delay 0 opens ab.0 ab.1"))))
    (sSeq (sIf (fB (fBin gIsNot (fCallD g__law_place (fCons (fVar 4) fNil)) (fC .none))) (sRet (fC (.bool false))) sNext)
    (sSeq (sSet 5 (fLst (fCons (fTup (fCons (fC (.str "bus")) (fCons (fC (.int 4)) fNil))) (fCons (fTup (fCons (fC (.str "bus A")) (fCons (fC (.int 5)) fNil))) (fCons (fTup (fCons (fC (.str "bus 1a")) (fCons (fC (.int 5)) fNil))) (fCons (fTup (fCons (fC (.str "bus abcdefghi")) (fCons (fC (.int 5)) fNil))) (fCons (fTup (fCons (fC (.str "bus a b")) (fCons (fC (.int 7)) fNil))) (fCons (fTup (fCons (fC (.str "bus line")) (fCons (fC (.int 5)) fNil))) (fCons (fTup (fCons (fC (.str "bus a-")) (fCons (fC (.int 6)) fNil))) (fCons (fTup (fCons (fC (.str "busses a")) (fCons (fC (.int 1)) fNil))) (fCons (fTup (fCons (fC (.str "Bus a")) (fCons (fC (.int 1)) fNil))) (fCons (fTup (fCons (fC (.str "line k a b")) (fCons (fC (.int 11)) fNil))) fNil))))))))))))
    (sSeq (sSet 5 (fBin gAdd (fVar 5) (fLst (fCons (fTup (fCons (fC (.str "line k a b 01")) (fCons (fC (.int 12)) fNil))) (fCons (fTup (fCons (fC (.str "line k a b 1001")) (fCons (fC (.int 12)) fNil))) fNil)))))
    (sSeq (sSet 5 (fBin gAdd (fVar 5) (fLst (fCons (fTup (fCons (fC (.str "line k a b 10000")) (fCons (fC (.int 12)) fNil))) (fCons (fTup (fCons (fC (.str "line k a 10")) (fCons (fC (.int 10)) fNil))) (fCons (fTup (fCons (fC (.str "source h a")) (fCons (fC (.int 11)) fNil))) (fCons (fTup (fCons (fC (.str "source h a 3 4")) (fCons (fC (.int 14)) fNil))) (fCons (fTup (fCons (fC (.str "error 1/10")) (fCons (fC (.int 1)) fNil))) (fCons (fTup (fCons (fC (.str "breaker 1 2")) (fCons (fC (.int 1)) fNil))) fNil)))))))))
    (sSeq (sSet 5 (fBin gAdd (fVar 5) (fLst (fCons (fTup (fCons (fC (.str "ticks")) (fCons (fC (.int 6)) fNil))) (fCons (fTup (fCons (fC (.str "ticks 1 2")) (fCons (fC (.int 9)) fNil))) fNil)))))
    (sSeq (sSet 5 (fBin gAdd (fVar 5) (fLst (fCons (fTup (fCons (fC (.str "guard e over ab 1 delay 0 opens g")) (fCons (fC (.int 14)) fNil))) (fCons (fTup (fCons (fC (.str "guard e over g.0 1 delay 0 opens g")) (fCons (fC (.int 14)) fNil))) (fCons (fTup (fCons (fC (.str "guard e over ab.2 1 delay 0 opens g")) (fCons (fC (.int 17)) fNil))) fNil))))))
    (sSeq (sSet 5 (fBin gAdd (fVar 5) (fLst (fCons (fTup (fCons (fC (.str "guard e over ab.0 1/0 delay 0 opens g")) (fCons (fC (.int 21)) fNil))) (fCons (fTup (fCons (fC (.str "guard e over ab.0 1/ delay 0 opens g")) (fCons (fC (.int 21)) fNil))) fNil)))))
    (sSeq (sSet 5 (fBin gAdd (fVar 5) (fLst (fCons (fTup (fCons (fC (.str "guard e over ab.0 1 forwards delay 0 opens g")) (fCons (fC (.int 21)) fNil))) (fCons (fTup (fCons (fC (.str "guard e reach ab.0 1 forward delay 0 opens g")) (fCons (fC (.int 22)) fNil))) (fCons (fTup (fCons (fC (.str "guard e behind ab.0 1 delay 0 opens g")) (fCons (fC (.int 21)) fNil))) fNil))))))
    (sSeq (sSet 5 (fBin gAdd (fVar 5) (fLst (fCons (fTup (fCons (fC (.str "guard e behind ab.0 delay opens g")) (fCons (fC (.int 27)) fNil))) (fCons (fTup (fCons (fC (.str "guard e behind ab.0 delay 0 opens")) (fCons (fC (.int 34)) fNil))) fNil)))))
    (sSeq (sSet 5 (fBin gAdd (fVar 5) (fLst (fCons (fTup (fCons (fC (.str "guard e behind ab.0 delay 0 opens g,")) (fCons (fC (.int 36)) fNil))) (fCons (fTup (fCons (fC (.str "guard e near ab.0 delay 0 opens g")) (fCons (fC (.int 9)) fNil))) (fCons (fTup (fCons (fC (.str "guard e difference ab.0 1 delay 0 opens g")) (fCons (fC (.int 22)) fNil))) fNil))))))
    (sSeq (sSet 5 (fBin gAdd (fVar 5) (fLst (fCons (fTup (fCons (fC (.str "guard e difference ab 1 /2 delay 0 opens g")) (fCons (fC (.int 25)) fNil))) (fCons (fTup (fCons (fC (.str "guard")) (fCons (fC (.int 6)) fNil))) (fCons (fTup (fCons (fC (.str "$")) (fCons (fC (.int 1)) fNil))) fNil))))))
    (sSeq (sFor (fIter (fVar 5)) (gTupT 2 (gsCons (gSet 6) (gsCons (gSet 7) gsNil))) B1_law)
    (sSeq (sIf (fOr (fB (fBin gNe (fCallD g__law_place (fCons (fBin gAdd (fVar 4) (fC (.str "\n\x74icks 3"))) fNil)) (fTup (fCons (fC (.int 9)) (fCons (fC (.int 1)) fNil))))) (fB (fBin gNe (fCallD g__law_place (fCons (fVar 3) fNil)) (fTup (fCons (fC (.int 7)) (fCons (fC (.int 1)) fNil)))))) (sRet (fC (.bool false))) sNext)
    (sSeq (sIf (fOr (fB (fBin gNe (fCallD g__law_place (fCons (fC (.str "")) fNil)) (fTup (fCons (fC (.int 1)) (fCons (fC (.int 1)) fNil))))) (fOr (fB (fBin gNe (fCallD g__law_place (fCons (fC .none) fNil)) (fTup (fCons (fC (.int 0)) (fCons (fC (.int 0)) fNil))))) (fB (fBin gNe (fCallD g__law_place (fCons (fC (.int 7)) fNil)) (fTup (fCons (fC (.int 0)) (fCons (fC (.int 0)) fNil))))))) (sRet (fC (.bool false))) sNext)
    (sRet (fAndV (fBin gEq (fCallD g__law_place (fCons (fBin gAdd (fVar 4) (fC (.str "\n\x62us ab"))) fNil)) (fC (.str "net"))) (fAndV (fBin gEq (fCallD g__law_place (fCons (fBin gAdd (fVar 4) (fC (.str "\n\x73ource h c 2"))) fNil)) (fC (.str "net"))) (fBin gEq (fCallD g__law_place (fCons (fBin gAdd (fVar 4) (fC (.str "\n\x67uard f difference c 1 delay 0 opens g"))) fNil)) (fC (.str "net"))))))))))))))))))))))))
def g_law : List Dat → Sto → Res Dat := runN 1 8 F_law
end
end LW

namespace LW
open PySem DL L2
/-! ### ints -/
@[simp] theorem lt2_int (i j : Int) (s : Sto) : gLt2 (.int i) (.int j) s = .ok (.bool (decide (i < j))) s := rfl
@[simp] theorem gt2_int (i j : Int) (s : Sto) : gGt2 (.int i) (.int j) s = .ok (.bool (decide (j < i))) s := rfl
theorem log_small {i : Int} (h : -(2 ^ 64 : Int) < i) (h2 : i < 2 ^ 64) : i.natAbs.log2 < 64 := by
  by_cases z : i.natAbs = 0
  · rw [z]; decide
  · exact (Nat.log2_lt z).mpr (by omega)
theorem mul_ok {i j : Int} (h : -(2 ^ 64 : Int) < i) (h2 : i < 2 ^ 64) (h3 : -(2 ^ 64 : Int) < j) (h4 : j < 2 ^ 64) : cMul i j = true := by
  have a := log_small h h2
  have b := log_small h3 h4
  exact decide_eq_true (by omega)
theorem div_ok {i j : Int} (h : 0 < j) (h4 : j < 2 ^ 64) : cDiv i j = true := by
  have b := log_small (i := j) (by omega) h4
  unfold cDiv
  rw [decide_eq_true h, decide_eq_true (by omega)]; rfl
theorem mod_ok {i j : Int} (h : 0 < j) : cMod i j = true := decide_eq_true h
theorem ups_length (lo : Int) (n : Nat) : (ups lo n).length = n := by unfold ups; rw [List.length_map, List.length_range]
/-! ### draws -/
/-- the cell of the draws -/
abbrev dst (cs : List Int) (k : Int) : Sto := [.ls [.list (cs.map PyData.int), .int 0, .int k]]
theorem at_get {ds : List Dat} {j : Nat} {d : Dat} (k : Int) (hk : k = j) (h : ds[j]? = some d) : L2.atI ds k = some d := by
  rw [hk]
  exact L2.atI_nat h
theorem cell_ok (cs : List Int) (k : Int) (s : Sto) (hk : 0 ≤ k) : ∃ v, g__law_cell_at [.list (cs.map PyData.int), .int k] s = .ok (.int v) s := by
  unfold g__law_cell_at F__law_cell_at
  by_cases h : k < cs.length
  · have hj : k.toNat < cs.length := by omega
    refine ⟨cs[k.toNat], ?_⟩
    have e : L2.atI (cs.map PyData.int) k = some (PyData.int cs[k.toNat]) := at_get (j := k.toNat) k (by omega) (by rw [List.getElem?_map, List.getElem?_eq_getElem hj]; rfl)
    simp [h, e]
  · exact ⟨0, by simp [h]⟩
def primesL : List Int := [1000003, 1000033, 1000037, 1000039, 1000081, 1000099, 1000117, 1000121, 1000133, 1000151, 1000159, 1000171, 1000183, 1000187, 1000193, 1000199]
theorem primes_at (m : Int) (h : 0 ≤ m) (h2 : m < 16) : ∃ p, L2.atI (primesL.map PyData.int) m = some (.int p) ∧ 0 < p ∧ p < 2000000 := by
  have hj : m.toNat < primesL.length := by
    show m.toNat < 16
    omega
  have all : ∀ p ∈ primesL, 0 < p ∧ p < 2000000 := by decide
  refine ⟨primesL[m.toNat], at_get (j := m.toNat) m (by omega) (by rw [List.getElem?_map, List.getElem?_eq_getElem hj]; rfl), all _ (List.getElem_mem hj)⟩
theorem draw_ok (c k b : Int) (s : Sto) (hc : -(2 ^ 60 : Int) < c) (hc2 : c < 2 ^ 60) (hk : -(2 ^ 60 : Int) < k) (hk2 : k < 2 ^ 60) (hb : 0 < b) : ∃ v, 0 ≤ v ∧ v < b ∧ g__law_draw [.int c, .int k, .int b] s = .ok (.int v) s := by
  obtain ⟨p, e, hp, hp2⟩ := primes_at (k % 16) (Int.emod_nonneg _ (by decide)) (Int.emod_lt_of_pos _ (by decide))
  have e' : L2.atI [PyData.int 1000003, PyData.int 1000033, PyData.int 1000037, PyData.int 1000039, PyData.int 1000081, PyData.int 1000099, PyData.int 1000117, PyData.int 1000121, PyData.int 1000133, PyData.int 1000151, PyData.int 1000159, PyData.int 1000171, PyData.int 1000183, PyData.int 1000187, PyData.int 1000193, PyData.int 1000199] (k % 16) = some (.int p) := e
  refine ⟨(c * 48271 + k * 69621) % p % b, Int.emod_nonneg _ (by omega), Int.emod_lt_of_pos _ hb, ?_⟩
  unfold g__law_draw F__law_draw
  simp [mul_ok (i := c) (j := 48271) (by omega) (by omega) (by decide) (by decide), mul_ok (i := k) (j := 69621) (by omega) (by omega) (by decide) (by decide), mod_ok, hp, hb, e']
theorem pow_loop : ∀ (ks : List Dat) (c k b p : Int) (n : Nat) (k0 u v : Slt) (s : Sto), 0 < p → p < 2 ^ (10 * n) → 10 * (n + ks.length) ≤ 250 →
    ∃ p' k1, 0 < p' ∧ p' < 2 ^ 250 ∧ forL (gSet 4) B1__law_number ks [.fz (.int c), .fz (.int k), .fz (.int b), .fz (.int p), k0, u, v] s = .nx [.fz (.int c), .fz (.int k), .fz (.int b), .fz (.int p'), k1, u, v] s := by
  intro ks
  induction ks with
  | nil =>
    intro c k b p n k0 u v s h1 h2 h3
    refine ⟨p, k0, h1, Int.lt_of_lt_of_le h2 ?_, by simp⟩
    have := Nat.pow_le_pow_right (n := 2) (by decide) (show 10 * n ≤ 250 by simpa using h3)
    exact_mod_cast this
  | cons d ks ih =>
    intro c k b p n k0 u v s h1 h2 h3
    have h3' : 10 * (n + 1 + ks.length) ≤ 250 := by simp at h3; omega
    have lg : p.natAbs.log2 < 250 := by
      have : p.natAbs < 2 ^ (10 * n) := by
        have h : (p.natAbs : Int) < ((2 ^ (10 * n) : Nat) : Int) := by push_cast; omega
        exact_mod_cast h
      have h2 : p.natAbs.log2 < 10 * n := (Nat.log2_lt (by omega)).mpr this
      omega
    have cm : cMul p 1009 = true := by
      have : (1009 : Int).natAbs.log2 = 9 := by decide
      exact decide_eq_true (by omega)
    have hp : p * 1009 < 2 ^ (10 * (n + 1)) := by
      have : (2 : Int) ^ (10 * (n + 1)) = 2 ^ (10 * n) * 1024 := by rw [show 10 * (n + 1) = 10 * n + 10 by omega, Int.pow_add]; rfl
      omega
    obtain ⟨p', k1, a1, a2, a3⟩ := ih c k b (p * 1009) (n + 1) (.fz d) u v s (by omega) hp h3'
    exact ⟨p', k1, a1, a2, by simp [B1__law_number, cm]; exact a3⟩
theorem number_ok (c k b : Int) (s : Sto) (hk : 0 ≤ k) (hk2 : k < 24) (hb : 0 < b) : ∃ v, 0 ≤ v ∧ v < b ∧ g__law_number [.int c, .int k, .int b] s = .ok (.int v) s := by
  have hm : k % 24 = k := Int.emod_eq_of_lt hk hk2
  have cr : cRng k = true := by unfold cRng; rw [decide_eq_true (by omega), decide_eq_true (by omega)]; rfl
  obtain ⟨p, k1, hp, hp2, e⟩ := pow_loop (ups 0 k.toNat) c k b 1 1 .un .un .un s (by decide) (by decide) (by rw [ups_length]; omega)
  have hd : cDiv (c - 1000000000000000000) p = true := by
    have : p.natAbs.log2 < 9000 := by
      have h : p.natAbs < 2 ^ 250 := by omega
      have := (Nat.log2_lt (k := 250) (by omega)).mpr h
      omega
    unfold cDiv
    rw [decide_eq_true hp, decide_eq_true this]; rfl
  have cp : cPow 10 18 = true := by decide
  have e10 : (10 : Int) ^ (18 : Int).toNat = 1000000000000000000 := by decide
  unfold g__law_number F__law_number
  by_cases hr : 0 < (c - 1000000000000000000) / p
  · refine ⟨(c - 1000000000000000000) / p % 1009 % b, Int.emod_nonneg _ (by omega), Int.emod_lt_of_pos _ hb, ?_⟩
    simp [mod_ok, hm, cr, e, cp, hd, hr, hb]
  · have g0 : 0 ≤ c % 1000003 := Int.emod_nonneg _ (by decide)
    have g1 : c % 1000003 < 1000003 := Int.emod_lt_of_pos _ (by decide)
    have k9 : 0 ≤ k % 9 := Int.emod_nonneg _ (by decide)
    have k9' : k % 9 < 9 := Int.emod_lt_of_pos _ (by decide)
    have hx : (c % 1000003 + 977 * k) * (c % 1000003 + 31 * k + 5) ≤ 2000000 * 2000000 := Int.mul_le_mul (by omega) (by omega) (by omega) (by omega)
    have hx0 : 0 ≤ (c % 1000003 + 977 * k) * (c % 1000003 + 31 * k + 5) := Int.mul_nonneg (by omega) (by omega)
    obtain ⟨v, h1, h2, h3⟩ := draw_ok ((c % 1000003 + 977 * k) * (c % 1000003 + 31 * k + 5)) (k % 9 + 1) 999983 s (by omega) (by omega) (by omega) (by omega) (by decide)
    refine ⟨v % b, Int.emod_nonneg _ (by omega), Int.emod_lt_of_pos _ hb, ?_⟩
    simp [mod_ok, hm, cr, e, cp, hd, hr, hb, h3, mul_ok (i := 977) (j := k) (by decide) (by decide) (by omega) (by omega), mul_ok (i := 31) (j := k) (by decide) (by decide) (by omega) (by omega),
      mul_ok (i := c % 1000003 + 977 * k) (j := c % 1000003 + 31 * k + 5) (by omega) (by omega) (by omega) (by omega)]
theorem next_ok (cs : List Int) (k b : Int) (hk : 0 ≤ k) (hk2 : k < 2 ^ 40) (hb : 0 < b) : ∃ v, 0 ≤ v ∧ v < b ∧ g__law_next [cel 0, .int b] (dst cs k) = .ok (.int v) (dst cs (k + 1)) := by
  have a0 : 0 ≤ (k + 1) / 12 := Int.ediv_nonneg (by omega) (by decide)
  have a1 : (k + 1) / 12 ≤ k + 1 := Int.ediv_le_self _ (by omega)
  obtain ⟨c, hc⟩ := cell_ok cs ((k + 1) / 12) (dst cs (k + 1)) a0
  have m0 : 0 ≤ (k + 1) % 12 := Int.emod_nonneg _ (by decide)
  have m1 : (k + 1) % 12 < 12 := Int.emod_lt_of_pos _ (by decide)
  obtain ⟨v, h1, h2, h3⟩ := number_ok (c + 31 * ((k + 1) / 12)) ((k + 1) % 12 + 1) b (dst cs (k + 1)) (by omega) (by omega) hb
  refine ⟨v, h1, h2, ?_⟩
  have i2 : ∀ (x y z : Dat), L2.atI [x, y, z] 2 = some z := fun _ _ _ => rfl
  have i1 : ∀ (x y z : Dat), L2.atI [x, y, z] 1 = some y := fun _ _ _ => rfl
  have i0 : ∀ (x y z : Dat), L2.atI [x, y, z] 0 = some x := fun _ _ _ => rfl
  have x2 : L2.ixN 3 2 = some 2 := rfl
  unfold g__law_next F__law_next
  unfold dst at hc h3 ⊢
  simp [cel, i2, i1, i0, x2, div_ok, mod_ok, hc, h3, mul_ok (i := 31) (j := (k + 1) / 12) (by decide) (by decide) (by omega) (by omega)]
end LW

namespace LW
open PySem DL L2
def Fg : FG := gTupT 2 (gsCons (gSet 3) (gsCons (gSet 4) gsNil))
def Kr : FS := (sSeq (sSet 5 (fBin gIx2 (fVar 1) (fC (.int 4))))
    (sSeq (sIf (fB (fBin gLt2 (fCall gLen2 (fCons (fVar 5) fNil)) (fC (.int 3)))) (sRaise 2 2 (fCons (fCall gLen2 (fCons (fVar 2) fNil)) (fCons (fBin gAdd (fCall gLen2 (fCons (fBin gIx2 (fVar 2) (fUn gNeg (fC (.int 1)))) fNil)) (fC (.int 1))) fNil))) sNext)
    (sSeq (sSet 6 (fTup (fStar (fLc (fIter (fSl (fVar 1) fNo (fSome (fC (.int 4))))) (gSet 8) cYes E2_read_net [8]) (fCons (fTup (fStar (fBin gIx2 (fVar 5) (fC (.str "error"))) (fStar (fBin gIx2 (fVar 5) (fC (.str "breaker"))) (fStar (fBin gIx2 (fVar 5) (fC (.str "ticks"))) fNil)))) fNil))))
    (sSeq (sDrop (fCall g_check_net (fCons (fVar 6) fNil)))
    (sRet (fVar 6))))))
def endR : Flo → Res Dat
  | .nx _ s' => .ok .none s'
  | .rt d s' => .ok d s'
  | .ex x _ s' => .ex x s'
  | _ => .bad
def headL (g : Str) : List Str := ["bus a", "bus" ++ g ++ "b", "line ab a b 10", "source g a 3", "error 1/10", "breaker 1 2"]
def rightL : List Str := ["ticks 10", "guard d difference ab 1/1000 delay 0 opens ab.0 ab.1"]
def e0 (t : Str) (L : Dat) : Lcs := [.fz (.str t), .fz (.tuple [cel 1, cel 2, cel 3, cel 4, cel 5]), .fz L, .un, .un, .un, .un, .un, .un]
def s0 (c : Cel) : Sto := [c, .ls [], .ls [], .ls [], .ls [], .dk []]
def e1 (t : Str) (L : Dat) : Lcs := [.fz (.str t), .fz (.tuple [cel 1, cel 2, cel 3, cel 4, cel 5]), .fz L, .fz (.int 6), .fz (.str "breaker 1 2"), .un, .un, .fz (cel 11), .un]
def s1 (c c7 : Cel) : Sto := [c,
  .ls [.str "a", .str "b"],
  .ls [.tuple [.str "ab", .str "a", .str "b", .int 10]],
  .ls [.tuple [.str "g", .str "a", .int 3]],
  .ls [],
  .dk [(.inr "error", .tuple [.tuple [.int 1, .int 10]]), (.inr "breaker", .tuple [.int 1, .int 2])],
  .ob 1 [.str "bus a", .int 1, .int 5],
  c7,
  .ob 1 [.str "line ab a b 10", .int 3, .int 14],
  .ob 1 [.str "source g a 3", .int 4, .int 12],
  .ob 1 [.str "error 1/10", .int 5, .int 10],
  .ob 1 [.str "breaker 1 2", .int 6, .int 11]]
def e2 (t : Str) (L : Dat) : Lcs := [.fz (.str t), .fz (.tuple [cel 1, cel 2, cel 3, cel 4, cel 5]), .fz L, .fz (.int 8), .fz (.str "guard d difference ab 1/1000 delay 0 opens ab.0 ab.1"), .un, .un, .fz (cel 13), .un]
def s2 (c c7 : Cel) : Sto := [c,
  .ls [.str "a", .str "b"],
  .ls [.tuple [.str "ab", .str "a", .str "b", .int 10]],
  .ls [.tuple [.str "g", .str "a", .int 3]],
  .ls [.tuple [.str "d", .tuple [.str "difference", .str "ab", .tuple [.int 1, .int 1000]], .int 0, .tuple [.tuple [.str "ab", .int 0], .tuple [.str "ab", .int 1]]]],
  .dk [(.inr "error", .tuple [.tuple [.int 1, .int 10]]), (.inr "breaker", .tuple [.int 1, .int 2]), (.inr "ticks", .tuple [.int 10])],
  .ob 1 [.str "bus a", .int 1, .int 5],
  c7,
  .ob 1 [.str "line ab a b 10", .int 3, .int 14],
  .ob 1 [.str "source g a 3", .int 4, .int 12],
  .ob 1 [.str "error 1/10", .int 5, .int 10],
  .ob 1 [.str "breaker 1 2", .int 6, .int 11],
  .ob 1 [.str "ticks 10", .int 7, .int 8],
  .ob 1 [.str "guard d difference ab 1/1000 delay 0 opens ab.0 ab.1", .int 8, .int 52]]
def gap (n : Nat) : Str := if n = 0 then " " else if n = 1 then "  " else "   "
def c7 (n : Nat) : Cel := .ob 1 [.str ("bus" ++ gap n ++ "b"), .int 2, .int (5 + n)]
theorem head0 (t : Str) (L : Dat) (ys : List Dat) (c : Cel) : forL Fg B1_read_net (pairs (ups 1 6) ((headL (gap 0)).map PyData.str) ++ ys) (e0 t L) (s0 c) = forL Fg B1_read_net ys (e1 t L) (s1 c (c7 0)) := by kernel_rfl
theorem head1 (t : Str) (L : Dat) (ys : List Dat) (c : Cel) : forL Fg B1_read_net (pairs (ups 1 6) ((headL (gap 1)).map PyData.str) ++ ys) (e0 t L) (s0 c) = forL Fg B1_read_net ys (e1 t L) (s1 c (c7 1)) := by kernel_rfl
theorem head2 (t : Str) (L : Dat) (ys : List Dat) (c : Cel) : forL Fg B1_read_net (pairs (ups 1 6) ((headL (gap 2)).map PyData.str) ++ ys) (e0 t L) (s0 c) = forL Fg B1_read_net ys (e1 t L) (s1 c (c7 2)) := by kernel_rfl
theorem right_ (t : Str) (L : Dat) (ys : List Dat) (c c7 : Cel) : forL Fg B1_read_net (.tuple [.int 7, .str "ticks 10"] :: .tuple [.int 8, .str "guard d difference ab 1/1000 delay 0 opens ab.0 ab.1"] :: ys) (e1 t L) (s1 c c7) = forL Fg B1_read_net ys (e2 t L) (s2 c c7) := by kernel_rfl
/-- what _law_place tells of a reading -/
def told : Res Dat → Option (Dat × Cel)
  | .ok _ (c :: _) => some (.none, c)
  | .ex (.tuple [.int 2, .int a, .int b]) (c :: _) => some (.tuple [.int a, .int b], c)
  | .ex (.tuple (.int 3 :: _)) (c :: _) => some (.str "net", c)
  | _ => .none
def Tl (k : Int) (x : Str) (e : Str → Dat → Lcs) (s : Cel → Cel → Sto) (d : Dat) : Prop := ∀ (t : Str) (L : Dat) (c c7 : Cel), told (endR ((forL Fg B1_read_net [.tuple [.int k, .str x]] (e t L) (s c c7)).seq Kr)) = some (d, c)
end LW

namespace LW
open PySem DL L2
theorem ta0 : Tl 7 "bus" e1 s1 (.tuple [.int 7, .int 4]) := fun t L c c7 => by kernel_rfl
theorem ta2 : Tl 7 "bus 1a" e1 s1 (.tuple [.int 7, .int 5]) := fun t L c c7 => by kernel_rfl
theorem ta4 : Tl 7 "bus a b" e1 s1 (.tuple [.int 7, .int 7]) := fun t L c c7 => by kernel_rfl
theorem ta6 : Tl 7 "bus a-" e1 s1 (.tuple [.int 7, .int 6]) := fun t L c c7 => by kernel_rfl
theorem ta8 : Tl 7 "Bus a" e1 s1 (.tuple [.int 7, .int 1]) := fun t L c c7 => by kernel_rfl
theorem ta10 : Tl 7 "line k a b 01" e1 s1 (.tuple [.int 7, .int 12]) := fun t L c c7 => by kernel_rfl
theorem ta12 : Tl 7 "line k a b 10000" e1 s1 (.tuple [.int 7, .int 12]) := fun t L c c7 => by kernel_rfl
theorem ta14 : Tl 7 "source h a" e1 s1 (.tuple [.int 7, .int 11]) := fun t L c c7 => by kernel_rfl
theorem ta16 : Tl 7 "error 1/10" e1 s1 (.tuple [.int 7, .int 1]) := fun t L c c7 => by kernel_rfl
theorem ta18 : Tl 7 "ticks" e1 s1 (.tuple [.int 7, .int 6]) := fun t L c c7 => by kernel_rfl
theorem ta20 : Tl 7 "guard e over ab 1 delay 0 opens g" e1 s1 (.tuple [.int 7, .int 14]) := fun t L c c7 => by kernel_rfl
theorem ta22 : Tl 7 "guard e over ab.2 1 delay 0 opens g" e1 s1 (.tuple [.int 7, .int 17]) := fun t L c c7 => by kernel_rfl
theorem ta24 : Tl 7 "guard e over ab.0 1/ delay 0 opens g" e1 s1 (.tuple [.int 7, .int 21]) := fun t L c c7 => by kernel_rfl
theorem ta26 : Tl 7 "guard e reach ab.0 1 forward delay 0 opens g" e1 s1 (.tuple [.int 7, .int 22]) := fun t L c c7 => by kernel_rfl
theorem ta28 : Tl 7 "guard e behind ab.0 delay opens g" e1 s1 (.tuple [.int 7, .int 27]) := fun t L c c7 => by kernel_rfl
theorem ta30 : Tl 7 "guard e behind ab.0 delay 0 opens g," e1 s1 (.tuple [.int 7, .int 36]) := fun t L c c7 => by kernel_rfl
theorem ta32 : Tl 7 "guard e difference ab.0 1 delay 0 opens g" e1 s1 (.tuple [.int 7, .int 22]) := fun t L c c7 => by kernel_rfl
theorem ta34 : Tl 7 "guard" e1 s1 (.tuple [.int 7, .int 6]) := fun t L c c7 => by kernel_rfl
theorem tc0 : Tl 9 "ticks 3" e2 s2 (.tuple [.int 9, .int 1]) := fun t L c c7 => by kernel_rfl
theorem td0 (x t : Str) (c c7 : Cel) : told (endR ((forL Fg B1_read_net [] (e2 t (.list [.str "bus a", .str x, .str "line ab a b 10", .str "source g a 3", .str "error 1/10", .str "breaker 1 2", .str "ticks 10", .str "guard d difference ab 1/1000 delay 0 opens ab.0 ab.1"])) (s2 c c7)).seq Kr)) = some (.none, c) := by kernel_rfl
theorem td1 (x t : Str) (c c7 : Cel) : told (endR ((forL Fg B1_read_net [.tuple [.int 7, .str ""]] (e1 t (.list [.str "bus a", .str x, .str "line ab a b 10", .str "source g a 3", .str "error 1/10", .str "breaker 1 2", .str ""])) (s1 c c7)).seq Kr)) = some (.tuple [.int 7, .int 1], c) := by kernel_rfl
theorem td2 (c : Cel) : told (endR ((forL Fg B1_read_net [.tuple [.int 1, .str ""]] (e0 "" (.list [.str ""])) (s0 c)).seq Kr)) = some (.tuple [.int 1, .int 1], c) := by kernel_rfl
end LW

namespace LW
open PySem DL L2
theorem ta1 : Tl 7 "bus A" e1 s1 (.tuple [.int 7, .int 5]) := fun t L c c7 => by kernel_rfl
theorem ta3 : Tl 7 "bus abcdefghi" e1 s1 (.tuple [.int 7, .int 5]) := fun t L c c7 => by kernel_rfl
theorem ta5 : Tl 7 "bus line" e1 s1 (.tuple [.int 7, .int 5]) := fun t L c c7 => by kernel_rfl
theorem ta7 : Tl 7 "busses a" e1 s1 (.tuple [.int 7, .int 1]) := fun t L c c7 => by kernel_rfl
theorem ta9 : Tl 7 "line k a b" e1 s1 (.tuple [.int 7, .int 11]) := fun t L c c7 => by kernel_rfl
theorem ta11 : Tl 7 "line k a b 1001" e1 s1 (.tuple [.int 7, .int 12]) := fun t L c c7 => by kernel_rfl
theorem ta13 : Tl 7 "line k a 10" e1 s1 (.tuple [.int 7, .int 10]) := fun t L c c7 => by kernel_rfl
theorem ta15 : Tl 7 "source h a 3 4" e1 s1 (.tuple [.int 7, .int 14]) := fun t L c c7 => by kernel_rfl
theorem ta17 : Tl 7 "breaker 1 2" e1 s1 (.tuple [.int 7, .int 1]) := fun t L c c7 => by kernel_rfl
theorem ta19 : Tl 7 "ticks 1 2" e1 s1 (.tuple [.int 7, .int 9]) := fun t L c c7 => by kernel_rfl
theorem ta21 : Tl 7 "guard e over g.0 1 delay 0 opens g" e1 s1 (.tuple [.int 7, .int 14]) := fun t L c c7 => by kernel_rfl
theorem ta23 : Tl 7 "guard e over ab.0 1/0 delay 0 opens g" e1 s1 (.tuple [.int 7, .int 21]) := fun t L c c7 => by kernel_rfl
theorem ta25 : Tl 7 "guard e over ab.0 1 forwards delay 0 opens g" e1 s1 (.tuple [.int 7, .int 21]) := fun t L c c7 => by kernel_rfl
theorem ta27 : Tl 7 "guard e behind ab.0 1 delay 0 opens g" e1 s1 (.tuple [.int 7, .int 21]) := fun t L c c7 => by kernel_rfl
theorem ta29 : Tl 7 "guard e behind ab.0 delay 0 opens" e1 s1 (.tuple [.int 7, .int 34]) := fun t L c c7 => by kernel_rfl
theorem ta31 : Tl 7 "guard e near ab.0 delay 0 opens g" e1 s1 (.tuple [.int 7, .int 9]) := fun t L c c7 => by kernel_rfl
theorem ta33 : Tl 7 "guard e difference ab 1 /2 delay 0 opens g" e1 s1 (.tuple [.int 7, .int 25]) := fun t L c c7 => by kernel_rfl
theorem ta35 : Tl 7 "$" e1 s1 (.tuple [.int 7, .int 1]) := fun t L c c7 => by kernel_rfl
theorem tc1 : Tl 9 "bus ab" e2 s2 (.str "net") := fun t L c c7 => by kernel_rfl
end LW

namespace LW
open PySem DL L2
theorem tb0 : Tl 9 (("  " : Str) ++ "bus") e2 s2 (.tuple [.int 9, .int 6]) := fun t L c c7 => by kernel_rfl
theorem tb2 : Tl 9 (("  " : Str) ++ "bus 1a") e2 s2 (.tuple [.int 9, .int 7]) := fun t L c c7 => by kernel_rfl
theorem tb4 : Tl 9 (("  " : Str) ++ "bus a b") e2 s2 (.tuple [.int 9, .int 9]) := fun t L c c7 => by kernel_rfl
theorem tb6 : Tl 9 (("  " : Str) ++ "bus a-") e2 s2 (.tuple [.int 9, .int 8]) := fun t L c c7 => by kernel_rfl
theorem tb8 : Tl 9 (("  " : Str) ++ "Bus a") e2 s2 (.tuple [.int 9, .int 3]) := fun t L c c7 => by kernel_rfl
theorem tb10 : Tl 9 (("  " : Str) ++ "line k a b 01") e2 s2 (.tuple [.int 9, .int 14]) := fun t L c c7 => by kernel_rfl
theorem tb12 : Tl 9 (("  " : Str) ++ "line k a b 10000") e2 s2 (.tuple [.int 9, .int 14]) := fun t L c c7 => by kernel_rfl
theorem tb14 : Tl 9 (("  " : Str) ++ "source h a") e2 s2 (.tuple [.int 9, .int 13]) := fun t L c c7 => by kernel_rfl
theorem tb16 : Tl 9 (("  " : Str) ++ "error 1/10") e2 s2 (.tuple [.int 9, .int 3]) := fun t L c c7 => by kernel_rfl
theorem tb18 : Tl 9 (("  " : Str) ++ "ticks") e2 s2 (.tuple [.int 9, .int 3]) := fun t L c c7 => by kernel_rfl
theorem tb20 : Tl 9 (("  " : Str) ++ "guard e over ab 1 delay 0 opens g") e2 s2 (.tuple [.int 9, .int 16]) := fun t L c c7 => by kernel_rfl
theorem tb22 : Tl 9 (("  " : Str) ++ "guard e over ab.2 1 delay 0 opens g") e2 s2 (.tuple [.int 9, .int 19]) := fun t L c c7 => by kernel_rfl
theorem tb24 : Tl 9 (("  " : Str) ++ "guard e over ab.0 1/ delay 0 opens g") e2 s2 (.tuple [.int 9, .int 23]) := fun t L c c7 => by kernel_rfl
theorem tb26 : Tl 9 (("  " : Str) ++ "guard e reach ab.0 1 forward delay 0 opens g") e2 s2 (.tuple [.int 9, .int 24]) := fun t L c c7 => by kernel_rfl
theorem tb28 : Tl 9 (("  " : Str) ++ "guard e behind ab.0 delay opens g") e2 s2 (.tuple [.int 9, .int 29]) := fun t L c c7 => by kernel_rfl
theorem tb30 : Tl 9 (("  " : Str) ++ "guard e behind ab.0 delay 0 opens g,") e2 s2 (.tuple [.int 9, .int 38]) := fun t L c c7 => by kernel_rfl
theorem tb32 : Tl 9 (("  " : Str) ++ "guard e difference ab.0 1 delay 0 opens g") e2 s2 (.tuple [.int 9, .int 24]) := fun t L c c7 => by kernel_rfl
theorem tb34 : Tl 9 (("  " : Str) ++ "guard") e2 s2 (.tuple [.int 9, .int 8]) := fun t L c c7 => by kernel_rfl
theorem tc2 : Tl 9 "source h c 2" e2 s2 (.str "net") := fun t L c c7 => by kernel_rfl
end LW

namespace LW
open PySem DL L2
theorem tb1 : Tl 9 (("  " : Str) ++ "bus A") e2 s2 (.tuple [.int 9, .int 7]) := fun t L c c7 => by kernel_rfl
theorem tb3 : Tl 9 (("  " : Str) ++ "bus abcdefghi") e2 s2 (.tuple [.int 9, .int 7]) := fun t L c c7 => by kernel_rfl
theorem tb5 : Tl 9 (("  " : Str) ++ "bus line") e2 s2 (.tuple [.int 9, .int 7]) := fun t L c c7 => by kernel_rfl
theorem tb7 : Tl 9 (("  " : Str) ++ "busses a") e2 s2 (.tuple [.int 9, .int 3]) := fun t L c c7 => by kernel_rfl
theorem tb9 : Tl 9 (("  " : Str) ++ "line k a b") e2 s2 (.tuple [.int 9, .int 13]) := fun t L c c7 => by kernel_rfl
theorem tb11 : Tl 9 (("  " : Str) ++ "line k a b 1001") e2 s2 (.tuple [.int 9, .int 14]) := fun t L c c7 => by kernel_rfl
theorem tb13 : Tl 9 (("  " : Str) ++ "line k a 10") e2 s2 (.tuple [.int 9, .int 12]) := fun t L c c7 => by kernel_rfl
theorem tb15 : Tl 9 (("  " : Str) ++ "source h a 3 4") e2 s2 (.tuple [.int 9, .int 16]) := fun t L c c7 => by kernel_rfl
theorem tb17 : Tl 9 (("  " : Str) ++ "breaker 1 2") e2 s2 (.tuple [.int 9, .int 3]) := fun t L c c7 => by kernel_rfl
theorem tb19 : Tl 9 (("  " : Str) ++ "ticks 1 2") e2 s2 (.tuple [.int 9, .int 3]) := fun t L c c7 => by kernel_rfl
theorem tb21 : Tl 9 (("  " : Str) ++ "guard e over g.0 1 delay 0 opens g") e2 s2 (.tuple [.int 9, .int 16]) := fun t L c c7 => by kernel_rfl
theorem tb23 : Tl 9 (("  " : Str) ++ "guard e over ab.0 1/0 delay 0 opens g") e2 s2 (.tuple [.int 9, .int 23]) := fun t L c c7 => by kernel_rfl
theorem tb25 : Tl 9 (("  " : Str) ++ "guard e over ab.0 1 forwards delay 0 opens g") e2 s2 (.tuple [.int 9, .int 23]) := fun t L c c7 => by kernel_rfl
theorem tb27 : Tl 9 (("  " : Str) ++ "guard e behind ab.0 1 delay 0 opens g") e2 s2 (.tuple [.int 9, .int 23]) := fun t L c c7 => by kernel_rfl
theorem tb29 : Tl 9 (("  " : Str) ++ "guard e behind ab.0 delay 0 opens") e2 s2 (.tuple [.int 9, .int 36]) := fun t L c c7 => by kernel_rfl
theorem tb31 : Tl 9 (("  " : Str) ++ "guard e near ab.0 delay 0 opens g") e2 s2 (.tuple [.int 9, .int 11]) := fun t L c c7 => by kernel_rfl
theorem tb33 : Tl 9 (("  " : Str) ++ "guard e difference ab 1 /2 delay 0 opens g") e2 s2 (.tuple [.int 9, .int 27]) := fun t L c c7 => by kernel_rfl
theorem tb35 : Tl 9 (("  " : Str) ++ "$") e2 s2 (.tuple [.int 9, .int 3]) := fun t L c c7 => by kernel_rfl
theorem tc3 : Tl 9 "guard f difference c 1 delay 0 opens g" e2 s2 (.str "net") := fun t L c c7 => by kernel_rfl
end LW

namespace LW
open PySem DL L2
theorem read_is (t : Str) (ls : List Str) (c : Cel) (h : Txt.split t "\n" = ls) (hl : t.length + 2 ≤ 16777216) :
    g_read_net [.str t] [c] = tidyR 1 (endR ((forL Fg B1_read_net (pairs (ups 1 ls.length) (ls.map PyData.str)) (e0 t (.list (ls.map PyData.str))) (s0 c)).seq Kr)) := by
  have nl : ¬ ("\n" : Str).length = 0 := by decide
  have hl2 : t.length ≤ 16777214 := by omega
  have cl : cLen ([] : List Dat) = true := by decide
  unfold g_read_net gTidy runF F_read_net
  simp [nl, cl, h, hl2, cel]
  rfl
theorem tidy_told {r : Res Dat} {d : Dat} {c : Cel} (h : told r = some (d, c)) : ∃ r', told r' = some (d, c) ∧ tidyR 1 r = r' := by
  refine ⟨tidyR 1 r, ?_, rfl⟩
  unfold told at h
  split at h
  · cases h
    simp only [tidyR]
    split <;> rfl
  · cases h
    simp only [tidyR]
    split <;> rfl
  · cases h
    simp only [tidyR]
    split <;> rfl
  · cases h
theorem place_of {t : Str} {d : Dat} {c : Cel} {r : Res Dat} (h : g_read_net [.str t] [c] = tidyR 1 r) (hc : lowC 1 c = true) (hr : told r = some (d, c)) : g__law_place [.str t] [c] = .ok d [c] := by
  obtain ⟨r', h1, h2⟩ := tidy_told hr
  rw [h2] at h
  unfold g__law_place gTidy DL.runN runF F__law_place
  unfold told at h1
  split at h1
  · cases h1
    simp [h, sTryAs, fCall, tidyR, low, lowS, hc]
  · cases h1
    simp [h, sTryAs, fCall, tidyR, low, lowL, lowS, hc, exId, exFd]
  · cases h1
    simp [h, sTryAs, fCall, tidyR, low, lowS, hc, exId, exFd]
  · cases h1
end LW

namespace LW
open PySem DL L2
def W : List (Str × Int) := [(("bus" : Str), (4 : Int)),
  (("bus A" : Str), (5 : Int)),
  (("bus 1a" : Str), (5 : Int)),
  (("bus abcdefghi" : Str), (5 : Int)),
  (("bus a b" : Str), (7 : Int)),
  (("bus line" : Str), (5 : Int)),
  (("bus a-" : Str), (6 : Int)),
  (("busses a" : Str), (1 : Int)),
  (("Bus a" : Str), (1 : Int)),
  (("line k a b" : Str), (11 : Int)),
  (("line k a b 01" : Str), (12 : Int)),
  (("line k a b 1001" : Str), (12 : Int)),
  (("line k a b 10000" : Str), (12 : Int)),
  (("line k a 10" : Str), (10 : Int)),
  (("source h a" : Str), (11 : Int)),
  (("source h a 3 4" : Str), (14 : Int)),
  (("error 1/10" : Str), (1 : Int)),
  (("breaker 1 2" : Str), (1 : Int)),
  (("ticks" : Str), (6 : Int)),
  (("ticks 1 2" : Str), (9 : Int)),
  (("guard e over ab 1 delay 0 opens g" : Str), (14 : Int)),
  (("guard e over g.0 1 delay 0 opens g" : Str), (14 : Int)),
  (("guard e over ab.2 1 delay 0 opens g" : Str), (17 : Int)),
  (("guard e over ab.0 1/0 delay 0 opens g" : Str), (21 : Int)),
  (("guard e over ab.0 1/ delay 0 opens g" : Str), (21 : Int)),
  (("guard e over ab.0 1 forwards delay 0 opens g" : Str), (21 : Int)),
  (("guard e reach ab.0 1 forward delay 0 opens g" : Str), (22 : Int)),
  (("guard e behind ab.0 1 delay 0 opens g" : Str), (21 : Int)),
  (("guard e behind ab.0 delay opens g" : Str), (27 : Int)),
  (("guard e behind ab.0 delay 0 opens" : Str), (34 : Int)),
  (("guard e behind ab.0 delay 0 opens g," : Str), (36 : Int)),
  (("guard e near ab.0 delay 0 opens g" : Str), (9 : Int)),
  (("guard e difference ab.0 1 delay 0 opens g" : Str), (22 : Int)),
  (("guard e difference ab 1 /2 delay 0 opens g" : Str), (25 : Int)),
  (("guard" : Str), (6 : Int)),
  (("$" : Str), (1 : Int))]
def Zf : FE := (fIf (fB (fBin gEq (fSl (fVar 6) fNo (fSome (fC (.int 5)))) (fC (.str "ticks")))) (fC (.int 3)) (fBin gAdd (fVar 7) (fC (.int 2))))
def headT (n : Nat) : Str := (("bus a\nbus" : Str) ++ gap n) ++ "b\nline ab a b 10\nsource g a 3\nerror 1/10\nbreaker 1 2\n"
def rightT (n : Nat) : Str := headT n ++ "ticks 10\n\x67uard d difference ab 1/1000 delay 0 opens ab.0 ab.1"
def Es (sl : Dat) (n : Nat) (L : Dat) (a b : Slt) : Lcs := [.fz sl, .fz (cel 0), .fz (.str (gap n)), .fz (.str (headT n)), .fz (.str (rightT n)), .fz L, a, b]
def Okt (p : Str × Int) : Prop := ∃ z : Int, Tl 7 p.1 e1 s1 (.tuple [.int 7, .int p.2]) ∧ Tl 9 (("  " : Str) ++ p.1) e2 s2 (.tuple [.int 9, .int z]) ∧
  (∀ sl n L c, Zf (Es sl n L (.fz (.str p.1)) (.fz (.int p.2))) [c] = .ok (.int z) [c]) ∧ (∀ s, gNe (.tuple [.int 7, .int p.2]) (.tuple [.int 7, .int p.2]) s = .ok (.bool false) s) ∧ (∀ s, gNe (.tuple [.int 9, .int z]) (.tuple [.int 9, .int z]) s = .ok (.bool false) s)
theorem ok_t35 : Okt ("$", 1) := ⟨3, ta35, tb35, fun _ _ _ _ => by kernel_rfl, fun _ => by kernel_rfl, fun _ => by kernel_rfl⟩
theorem ok_t34 : Okt ("guard", 6) := ⟨8, ta34, tb34, fun _ _ _ _ => by kernel_rfl, fun _ => by kernel_rfl, fun _ => by kernel_rfl⟩
theorem ok_t33 : Okt ("guard e difference ab 1 /2 delay 0 opens g", 25) := ⟨27, ta33, tb33, fun _ _ _ _ => by kernel_rfl, fun _ => by kernel_rfl, fun _ => by kernel_rfl⟩
theorem ok_t32 : Okt ("guard e difference ab.0 1 delay 0 opens g", 22) := ⟨24, ta32, tb32, fun _ _ _ _ => by kernel_rfl, fun _ => by kernel_rfl, fun _ => by kernel_rfl⟩
theorem ok_t31 : Okt ("guard e near ab.0 delay 0 opens g", 9) := ⟨11, ta31, tb31, fun _ _ _ _ => by kernel_rfl, fun _ => by kernel_rfl, fun _ => by kernel_rfl⟩
theorem ok_t30 : Okt ("guard e behind ab.0 delay 0 opens g,", 36) := ⟨38, ta30, tb30, fun _ _ _ _ => by kernel_rfl, fun _ => by kernel_rfl, fun _ => by kernel_rfl⟩
theorem ok_t29 : Okt ("guard e behind ab.0 delay 0 opens", 34) := ⟨36, ta29, tb29, fun _ _ _ _ => by kernel_rfl, fun _ => by kernel_rfl, fun _ => by kernel_rfl⟩
theorem ok_t28 : Okt ("guard e behind ab.0 delay opens g", 27) := ⟨29, ta28, tb28, fun _ _ _ _ => by kernel_rfl, fun _ => by kernel_rfl, fun _ => by kernel_rfl⟩
theorem ok_t27 : Okt ("guard e behind ab.0 1 delay 0 opens g", 21) := ⟨23, ta27, tb27, fun _ _ _ _ => by kernel_rfl, fun _ => by kernel_rfl, fun _ => by kernel_rfl⟩
theorem ok_t26 : Okt ("guard e reach ab.0 1 forward delay 0 opens g", 22) := ⟨24, ta26, tb26, fun _ _ _ _ => by kernel_rfl, fun _ => by kernel_rfl, fun _ => by kernel_rfl⟩
theorem ok_t25 : Okt ("guard e over ab.0 1 forwards delay 0 opens g", 21) := ⟨23, ta25, tb25, fun _ _ _ _ => by kernel_rfl, fun _ => by kernel_rfl, fun _ => by kernel_rfl⟩
theorem ok_t24 : Okt ("guard e over ab.0 1/ delay 0 opens g", 21) := ⟨23, ta24, tb24, fun _ _ _ _ => by kernel_rfl, fun _ => by kernel_rfl, fun _ => by kernel_rfl⟩
theorem ok_t23 : Okt ("guard e over ab.0 1/0 delay 0 opens g", 21) := ⟨23, ta23, tb23, fun _ _ _ _ => by kernel_rfl, fun _ => by kernel_rfl, fun _ => by kernel_rfl⟩
theorem ok_t22 : Okt ("guard e over ab.2 1 delay 0 opens g", 17) := ⟨19, ta22, tb22, fun _ _ _ _ => by kernel_rfl, fun _ => by kernel_rfl, fun _ => by kernel_rfl⟩
theorem ok_t21 : Okt ("guard e over g.0 1 delay 0 opens g", 14) := ⟨16, ta21, tb21, fun _ _ _ _ => by kernel_rfl, fun _ => by kernel_rfl, fun _ => by kernel_rfl⟩
theorem ok_t20 : Okt ("guard e over ab 1 delay 0 opens g", 14) := ⟨16, ta20, tb20, fun _ _ _ _ => by kernel_rfl, fun _ => by kernel_rfl, fun _ => by kernel_rfl⟩
theorem ok_t19 : Okt ("ticks 1 2", 9) := ⟨3, ta19, tb19, fun _ _ _ _ => by kernel_rfl, fun _ => by kernel_rfl, fun _ => by kernel_rfl⟩
theorem ok_t18 : Okt ("ticks", 6) := ⟨3, ta18, tb18, fun _ _ _ _ => by kernel_rfl, fun _ => by kernel_rfl, fun _ => by kernel_rfl⟩
theorem ok_t17 : Okt ("breaker 1 2", 1) := ⟨3, ta17, tb17, fun _ _ _ _ => by kernel_rfl, fun _ => by kernel_rfl, fun _ => by kernel_rfl⟩
theorem ok_t16 : Okt ("error 1/10", 1) := ⟨3, ta16, tb16, fun _ _ _ _ => by kernel_rfl, fun _ => by kernel_rfl, fun _ => by kernel_rfl⟩
theorem ok_t15 : Okt ("source h a 3 4", 14) := ⟨16, ta15, tb15, fun _ _ _ _ => by kernel_rfl, fun _ => by kernel_rfl, fun _ => by kernel_rfl⟩
theorem ok_t14 : Okt ("source h a", 11) := ⟨13, ta14, tb14, fun _ _ _ _ => by kernel_rfl, fun _ => by kernel_rfl, fun _ => by kernel_rfl⟩
theorem ok_t13 : Okt ("line k a 10", 10) := ⟨12, ta13, tb13, fun _ _ _ _ => by kernel_rfl, fun _ => by kernel_rfl, fun _ => by kernel_rfl⟩
theorem ok_t12 : Okt ("line k a b 10000", 12) := ⟨14, ta12, tb12, fun _ _ _ _ => by kernel_rfl, fun _ => by kernel_rfl, fun _ => by kernel_rfl⟩
theorem ok_t11 : Okt ("line k a b 1001", 12) := ⟨14, ta11, tb11, fun _ _ _ _ => by kernel_rfl, fun _ => by kernel_rfl, fun _ => by kernel_rfl⟩
theorem ok_t10 : Okt ("line k a b 01", 12) := ⟨14, ta10, tb10, fun _ _ _ _ => by kernel_rfl, fun _ => by kernel_rfl, fun _ => by kernel_rfl⟩
theorem ok_t9 : Okt ("line k a b", 11) := ⟨13, ta9, tb9, fun _ _ _ _ => by kernel_rfl, fun _ => by kernel_rfl, fun _ => by kernel_rfl⟩
theorem ok_t8 : Okt ("Bus a", 1) := ⟨3, ta8, tb8, fun _ _ _ _ => by kernel_rfl, fun _ => by kernel_rfl, fun _ => by kernel_rfl⟩
theorem ok_t7 : Okt ("busses a", 1) := ⟨3, ta7, tb7, fun _ _ _ _ => by kernel_rfl, fun _ => by kernel_rfl, fun _ => by kernel_rfl⟩
theorem ok_t6 : Okt ("bus a-", 6) := ⟨8, ta6, tb6, fun _ _ _ _ => by kernel_rfl, fun _ => by kernel_rfl, fun _ => by kernel_rfl⟩
theorem ok_t5 : Okt ("bus line", 5) := ⟨7, ta5, tb5, fun _ _ _ _ => by kernel_rfl, fun _ => by kernel_rfl, fun _ => by kernel_rfl⟩
theorem ok_t4 : Okt ("bus a b", 7) := ⟨9, ta4, tb4, fun _ _ _ _ => by kernel_rfl, fun _ => by kernel_rfl, fun _ => by kernel_rfl⟩
theorem ok_t3 : Okt ("bus abcdefghi", 5) := ⟨7, ta3, tb3, fun _ _ _ _ => by kernel_rfl, fun _ => by kernel_rfl, fun _ => by kernel_rfl⟩
theorem ok_t2 : Okt ("bus 1a", 5) := ⟨7, ta2, tb2, fun _ _ _ _ => by kernel_rfl, fun _ => by kernel_rfl, fun _ => by kernel_rfl⟩
theorem ok_t1 : Okt ("bus A", 5) := ⟨7, ta1, tb1, fun _ _ _ _ => by kernel_rfl, fun _ => by kernel_rfl, fun _ => by kernel_rfl⟩
theorem ok_t0 : Okt ("bus", 4) := ⟨6, ta0, tb0, fun _ _ _ _ => by kernel_rfl, fun _ => by kernel_rfl, fun _ => by kernel_rfl⟩
theorem all_ok : ∀ p ∈ W, Okt p := List.forall_mem_cons.2 ⟨ok_t0, List.forall_mem_cons.2 ⟨ok_t1, List.forall_mem_cons.2 ⟨ok_t2, List.forall_mem_cons.2 ⟨ok_t3, List.forall_mem_cons.2 ⟨ok_t4, List.forall_mem_cons.2 ⟨ok_t5, List.forall_mem_cons.2 ⟨ok_t6, List.forall_mem_cons.2 ⟨ok_t7, List.forall_mem_cons.2 ⟨ok_t8, List.forall_mem_cons.2 ⟨ok_t9, List.forall_mem_cons.2 ⟨ok_t10, List.forall_mem_cons.2 ⟨ok_t11, List.forall_mem_cons.2 ⟨ok_t12, List.forall_mem_cons.2 ⟨ok_t13, List.forall_mem_cons.2 ⟨ok_t14, List.forall_mem_cons.2 ⟨ok_t15, List.forall_mem_cons.2 ⟨ok_t16, List.forall_mem_cons.2 ⟨ok_t17, List.forall_mem_cons.2 ⟨ok_t18, List.forall_mem_cons.2 ⟨ok_t19, List.forall_mem_cons.2 ⟨ok_t20, List.forall_mem_cons.2 ⟨ok_t21, List.forall_mem_cons.2 ⟨ok_t22, List.forall_mem_cons.2 ⟨ok_t23, List.forall_mem_cons.2 ⟨ok_t24, List.forall_mem_cons.2 ⟨ok_t25, List.forall_mem_cons.2 ⟨ok_t26, List.forall_mem_cons.2 ⟨ok_t27, List.forall_mem_cons.2 ⟨ok_t28, List.forall_mem_cons.2 ⟨ok_t29, List.forall_mem_cons.2 ⟨ok_t30, List.forall_mem_cons.2 ⟨ok_t31, List.forall_mem_cons.2 ⟨ok_t32, List.forall_mem_cons.2 ⟨ok_t33, List.forall_mem_cons.2 ⟨ok_t34, List.forall_mem_cons.2 ⟨ok_t35, List.forall_mem_nil _⟩⟩⟩⟩⟩⟩⟩⟩⟩⟩⟩⟩⟩⟩⟩⟩⟩⟩⟩⟩⟩⟩⟩⟩⟩⟩⟩⟩⟩⟩⟩⟩⟩⟩⟩⟩
end LW

namespace LW
open PySem DL L2
def frees (p : Str × Int) : Bool := free 10 p.1 && free 10 (("  " : Str) ++ p.1) && decide (p.1.length ≤ 1000)
theorem frees_ : W.all frees = true := by decide +kernel
theorem pre_head {n : Nat} (h : n < 3) : headT n = pre ⟨#[10]⟩ (headL (gap n)) ∧ (headL (gap n)).all (free 10) = true := by
  rcases (by omega : n = 0 ∨ n = 1 ∨ n = 2) with rfl | rfl | rfl <;> decide +kernel
theorem pre_right {n : Nat} (h : n < 3) : rightT n ++ "\n" = pre ⟨#[10]⟩ (headL (gap n) ++ rightL) ∧ (headL (gap n) ++ rightL).all (free 10) = true := by
  rcases (by omega : n = 0 ∨ n = 1 ∨ n = 2) with rfl | rfl | rfl <;> decide +kernel
theorem sp_head {n : Nat} (h : n < 3) {x : Str} (hx : free 10 x = true) : Txt.split (headT n ++ x) "\n" = headL (gap n) ++ [x] := split_snoc (pre_head h).1 (pre_head h).2 hx
theorem sp_right {n : Nat} (h : n < 3) {x : Str} (hx : free 10 x = true) : Txt.split (rightT n ++ "\n" ++ x) "\n" = headL (gap n) ++ rightL ++ [x] := split_snoc (pre_right h).1 (pre_right h).2 hx
theorem len_head {n : Nat} (h : n < 3) : (headT n).length ≤ 1000 := by
  rcases (by omega : n = 0 ∨ n = 1 ∨ n = 2) with rfl | rfl | rfl <;> decide +kernel
theorem len_right {n : Nat} (h : n < 3) : (rightT n).length ≤ 1000 := by
  rcases (by omega : n = 0 ∨ n = 1 ∨ n = 2) with rfl | rfl | rfl <;> decide +kernel
theorem head_ {n : Nat} (h : n < 3) (t : Str) (L : Dat) (ys : List Dat) (c : Cel) : forL Fg B1_read_net (pairs (ups 1 6) ((headL (gap n)).map PyData.str) ++ ys) (e0 t L) (s0 c) = forL Fg B1_read_net ys (e1 t L) (s1 c (c7 n)) := by
  rcases (by omega : n = 0 ∨ n = 1 ∨ n = 2) with rfl | rfl | rfl
  · exact head0 t L ys c
  · exact head1 t L ys c
  · exact head2 t L ys c
theorem place_head {n : Nat} (h : n < 3) {x : Str} {d : Dat} {c : Cel} (T : Tl 7 x e1 s1 d) (sp : free 10 x = true) (hl : x.length ≤ 1000) (hc : lowC 1 c = true) : g__law_place [.str (headT n ++ x)] [c] = .ok d [c] := by
  refine place_of (read_is _ _ c (sp_head h sp) (by rw [len_app]; have := len_head h; omega)) hc ?_
  have e : pairs (ups 1 (headL (gap n) ++ [x]).length) ((headL (gap n) ++ [x]).map PyData.str) = pairs (ups 1 6) ((headL (gap n)).map PyData.str) ++ [.tuple [.int 7, .str x]] := rfl
  rw [e, head_ h]
  exact T _ _ _ _
theorem place_right {n : Nat} (h : n < 3) {x t : Str} {d : Dat} {c : Cel} (T : Tl 9 x e2 s2 d) (sp : Txt.split t "\n" = headL (gap n) ++ rightL ++ [x]) (hl : t.length ≤ 3000) (hc : lowC 1 c = true) : g__law_place [.str t] [c] = .ok d [c] := by
  refine place_of (read_is _ _ c sp (by omega)) hc ?_
  have e : pairs (ups 1 (headL (gap n) ++ rightL ++ [x]).length) ((headL (gap n) ++ rightL ++ [x]).map PyData.str) = pairs (ups 1 6) ((headL (gap n)).map PyData.str) ++ (.tuple [.int 7, .str "ticks 10"] :: .tuple [.int 8, .str "guard d difference ab 1/1000 delay 0 opens ab.0 ab.1"] :: [.tuple [.int 9, .str x]]) := rfl
  rw [e, head_ h, right_]
  exact T _ _ _ _
theorem place_whole {n : Nat} (h : n < 3) {c : Cel} (hc : lowC 1 c = true) : g__law_place [.str (rightT n)] [c] = .ok .none [c] := by
  have sp : Txt.split (rightT n) "\n" = headL (gap n) ++ rightL := by
    rcases (by omega : n = 0 ∨ n = 1 ∨ n = 2) with rfl | rfl | rfl <;> decide +kernel
  refine place_of (read_is _ _ c sp (by have := len_right h; omega)) hc ?_
  have e : pairs (ups 1 (headL (gap n) ++ rightL).length) ((headL (gap n) ++ rightL).map PyData.str) = pairs (ups 1 6) ((headL (gap n)).map PyData.str) ++ (.tuple [.int 7, .str "ticks 10"] :: .tuple [.int 8, .str "guard d difference ab 1/1000 delay 0 opens ab.0 ab.1"] :: []) := rfl
  rw [e, head_ h, right_]
  exact td0 _ _ _ _
theorem place_bare {n : Nat} (h : n < 3) {c : Cel} (hc : lowC 1 c = true) : g__law_place [.str (headT n)] [c] = .ok (.tuple [.int 7, .int 1]) [c] := by
  have sp : Txt.split (headT n) "\n" = headL (gap n) ++ [("" : Str)] := by
    rcases (by omega : n = 0 ∨ n = 1 ∨ n = 2) with rfl | rfl | rfl <;> decide +kernel
  refine place_of (read_is _ _ c sp (by have := len_head h; omega)) hc ?_
  have e : pairs (ups 1 (headL (gap n) ++ [("" : Str)]).length) ((headL (gap n) ++ [("" : Str)]).map PyData.str) = pairs (ups 1 6) ((headL (gap n)).map PyData.str) ++ [.tuple [.int 7, .str ""]] := rfl
  rw [e, head_ h]
  exact td1 _ _ _ _
theorem place_empty {c : Cel} (hc : lowC 1 c = true) : g__law_place [.str ""] [c] = .ok (.tuple [.int 1, .int 1]) [c] :=
  place_of (read_is "" [("" : Str)] c (by decide +kernel) (by decide)) hc (td2 c)
theorem place_none {c : Cel} (hc : lowC 1 c = true) : g__law_place [.none] [c] = .ok (.tuple [.int 0, .int 0]) [c] := by
  have e : g_read_net [.none] [c] = .ex (.tuple [.int 2, .int 0, .int 0]) [c] := by
    unfold g_read_net gTidy
    have : runF 1 9 F_read_net [.none] [c] = .ex (.tuple [.int 2, .int 0, .int 0]) [c] := by kernel_rfl
    rw [this]
    simp [tidyR, low, lowL, lowS, hc]
  unfold g__law_place gTidy DL.runN runF F__law_place
  simp [e, sTryAs, fCall, tidyR, low, lowL, lowS, hc, exId, exFd]
theorem place_seven {c : Cel} (hc : lowC 1 c = true) : g__law_place [.int 7] [c] = .ok (.tuple [.int 0, .int 0]) [c] := by
  have e : g_read_net [.int 7] [c] = .ex (.tuple [.int 2, .int 0, .int 0]) [c] := by
    unfold g_read_net gTidy
    have : runF 1 9 F_read_net [.int 7] [c] = .ex (.tuple [.int 2, .int 0, .int 0]) [c] := by kernel_rfl
    rw [this]
    simp [tidyR, low, lowL, lowS, hc]
  unfold g__law_place gTidy DL.runN runF F__law_place
  simp [e, sTryAs, fCall, tidyR, low, lowL, lowS, hc, exId, exFd]
theorem size_ {p : Str × Int} (hp : p ∈ W) : free 10 p.1 = true ∧ free 10 (("  " : Str) ++ p.1) = true ∧ p.1.length ≤ 1000 := by
  have q := List.all_eq_true.mp frees_ p hp
  simp only [frees, Bool.and_eq_true, decide_eq_true_eq] at q
  exact ⟨q.1.1, q.1.2, q.2⟩
theorem tail_ {n : Nat} (h : n < 3) {x : Str} {d : Dat} {c : Cel} (T : Tl 9 x e2 s2 d) (hx : free 10 x = true) (hl : x.length ≤ 1500) (hc : lowC 1 c = true) : g__law_place [.str (rightT n ++ "\n" ++ x)] [c] = .ok d [c] :=
  place_right h T (sp_right h hx) (by rw [len_app, len_app]; have := len_right h; have : ("\n" : Str).length = 1 := by decide
                                      omega) hc
theorem step_ {n : Nat} (h : n < 3) {p : Str × Int} (hp : p ∈ W) (sl L : Dat) {c : Cel} (hc : lowC 1 c = true) : B1_law (Es sl n L (.fz (.str p.1)) (.fz (.int p.2))) [c] = .nx (Es sl n L (.fz (.str p.1)) (.fz (.int p.2))) [c] := by
  obtain ⟨z, a1, a2, a3, a4, a5⟩ := all_ok p hp
  obtain ⟨q1, q2, q3⟩ := size_ hp
  have p1 := place_head h a1 q1 q3 hc
  have p2 := tail_ h a2 q2 (by rw [len_app]; have : ("  " : Str).length = 2 := by decide
                               omega) hc
  have e2 : (rightT n ++ "\n" ++ (("  " : Str) ++ p.1)) = rightT n ++ "\n  " ++ p.1 := by
    have : (rightT n ++ "\n" ++ ("  " : Str)) = rightT n ++ "\n  " := cs_inj (by simp only [cs_app, List.append_assoc]; rfl)
    rw [← this, app_assoc (rightT n ++ "\n")]
  rw [e2] at p2
  have lh := len_head h
  have lr := len_right h
  have l3 : ("\n  " : Str).length = 3 := by decide
  have a3' := a3 sl n L c
  unfold Es Zf at a3'
  unfold B1_law Es
  simp [len_app, p1, p2, a4, a5, size_line, (by omega : (headT n).length + p.1.length ≤ 16777216), (by omega : (rightT n).length + 3 ≤ 16777216), (by omega : (rightT n).length + 3 + p.1.length ≤ 16777216), l3] at a3' ⊢
  rw [a3']
  simp [a5]
end LW

namespace LW
open PySem DL L2
def Ls0 : FS := (sCell 1 (fCons (fSl (fVar 0) fNo (fSome (fC (.int 63)))) (fCons (fC (.int 0)) (fCons (fC (.int 0)) fNil))))
def Ls1 : FS := (sSet 2 (fBin gMul2 (fC (.str " ")) (fBin gAdd (fC (.int 1)) (fCallD g__law_next (fCons (fVar 1) (fCons (fC (.int 3)) fNil))))))
def Ls2 : FS := (sSet 3 (fBin gAdd (fBin gAdd (fC (.str "bus a\n\x62us")) (fVar 2)) (fC (.str "b\n\x6cine ab a b 10\n\x73ource g a 3\n\x65rror 1/10\n\x62reaker 1 2\n"))))
def Ls3 : FS := (sSet 4 (fBin gAdd (fVar 3) (fC (.str "ticks 10\n\x67uard d difference ab 1/1000 delay 0 opens ab.0 ab.1"))))
def Ls4 : FS := (sIf (fB (fBin gIsNot (fCallD g__law_place (fCons (fVar 4) fNil)) (fC .none))) (sRet (fC (.bool false))) sNext)
def Ls15 : FS := (sFor (fIter (fVar 5)) (gTupT 2 (gsCons (gSet 6) (gsCons (gSet 7) gsNil))) B1_law)
def Ls16 : FS := (sIf (fOr (fB (fBin gNe (fCallD g__law_place (fCons (fBin gAdd (fVar 4) (fC (.str "\n\x74icks 3"))) fNil)) (fTup (fCons (fC (.int 9)) (fCons (fC (.int 1)) fNil))))) (fB (fBin gNe (fCallD g__law_place (fCons (fVar 3) fNil)) (fTup (fCons (fC (.int 7)) (fCons (fC (.int 1)) fNil)))))) (sRet (fC (.bool false))) sNext)
def Ls17 : FS := (sIf (fOr (fB (fBin gNe (fCallD g__law_place (fCons (fC (.str "")) fNil)) (fTup (fCons (fC (.int 1)) (fCons (fC (.int 1)) fNil))))) (fOr (fB (fBin gNe (fCallD g__law_place (fCons (fC .none) fNil)) (fTup (fCons (fC (.int 0)) (fCons (fC (.int 0)) fNil))))) (fB (fBin gNe (fCallD g__law_place (fCons (fC (.int 7)) fNil)) (fTup (fCons (fC (.int 0)) (fCons (fC (.int 0)) fNil))))))) (sRet (fC (.bool false))) sNext)
def Ls18 : FS := (sRet (fAndV (fBin gEq (fCallD g__law_place (fCons (fBin gAdd (fVar 4) (fC (.str "\n\x62us ab"))) fNil)) (fC (.str "net"))) (fAndV (fBin gEq (fCallD g__law_place (fCons (fBin gAdd (fVar 4) (fC (.str "\n\x73ource h c 2"))) fNil)) (fC (.str "net"))) (fBin gEq (fCallD g__law_place (fCons (fBin gAdd (fVar 4) (fC (.str "\n\x67uard f difference c 1 delay 0 opens g"))) fNil)) (fC (.str "net"))))))
def Lseg (K : FS) : FS := (sSeq (sSet 5 (fLst (fCons (fTup (fCons (fC (.str "bus")) (fCons (fC (.int 4)) fNil))) (fCons (fTup (fCons (fC (.str "bus A")) (fCons (fC (.int 5)) fNil))) (fCons (fTup (fCons (fC (.str "bus 1a")) (fCons (fC (.int 5)) fNil))) (fCons (fTup (fCons (fC (.str "bus abcdefghi")) (fCons (fC (.int 5)) fNil))) (fCons (fTup (fCons (fC (.str "bus a b")) (fCons (fC (.int 7)) fNil))) (fCons (fTup (fCons (fC (.str "bus line")) (fCons (fC (.int 5)) fNil))) (fCons (fTup (fCons (fC (.str "bus a-")) (fCons (fC (.int 6)) fNil))) (fCons (fTup (fCons (fC (.str "busses a")) (fCons (fC (.int 1)) fNil))) (fCons (fTup (fCons (fC (.str "Bus a")) (fCons (fC (.int 1)) fNil))) (fCons (fTup (fCons (fC (.str "line k a b")) (fCons (fC (.int 11)) fNil))) fNil)))))))))))) (sSeq (sSet 5 (fBin gAdd (fVar 5) (fLst (fCons (fTup (fCons (fC (.str "line k a b 01")) (fCons (fC (.int 12)) fNil))) (fCons (fTup (fCons (fC (.str "line k a b 1001")) (fCons (fC (.int 12)) fNil))) fNil))))) (sSeq (sSet 5 (fBin gAdd (fVar 5) (fLst (fCons (fTup (fCons (fC (.str "line k a b 10000")) (fCons (fC (.int 12)) fNil))) (fCons (fTup (fCons (fC (.str "line k a 10")) (fCons (fC (.int 10)) fNil))) (fCons (fTup (fCons (fC (.str "source h a")) (fCons (fC (.int 11)) fNil))) (fCons (fTup (fCons (fC (.str "source h a 3 4")) (fCons (fC (.int 14)) fNil))) (fCons (fTup (fCons (fC (.str "error 1/10")) (fCons (fC (.int 1)) fNil))) (fCons (fTup (fCons (fC (.str "breaker 1 2")) (fCons (fC (.int 1)) fNil))) fNil))))))))) (sSeq (sSet 5 (fBin gAdd (fVar 5) (fLst (fCons (fTup (fCons (fC (.str "ticks")) (fCons (fC (.int 6)) fNil))) (fCons (fTup (fCons (fC (.str "ticks 1 2")) (fCons (fC (.int 9)) fNil))) fNil))))) (sSeq (sSet 5 (fBin gAdd (fVar 5) (fLst (fCons (fTup (fCons (fC (.str "guard e over ab 1 delay 0 opens g")) (fCons (fC (.int 14)) fNil))) (fCons (fTup (fCons (fC (.str "guard e over g.0 1 delay 0 opens g")) (fCons (fC (.int 14)) fNil))) (fCons (fTup (fCons (fC (.str "guard e over ab.2 1 delay 0 opens g")) (fCons (fC (.int 17)) fNil))) fNil)))))) (sSeq (sSet 5 (fBin gAdd (fVar 5) (fLst (fCons (fTup (fCons (fC (.str "guard e over ab.0 1/0 delay 0 opens g")) (fCons (fC (.int 21)) fNil))) (fCons (fTup (fCons (fC (.str "guard e over ab.0 1/ delay 0 opens g")) (fCons (fC (.int 21)) fNil))) fNil))))) (sSeq (sSet 5 (fBin gAdd (fVar 5) (fLst (fCons (fTup (fCons (fC (.str "guard e over ab.0 1 forwards delay 0 opens g")) (fCons (fC (.int 21)) fNil))) (fCons (fTup (fCons (fC (.str "guard e reach ab.0 1 forward delay 0 opens g")) (fCons (fC (.int 22)) fNil))) (fCons (fTup (fCons (fC (.str "guard e behind ab.0 1 delay 0 opens g")) (fCons (fC (.int 21)) fNil))) fNil)))))) (sSeq (sSet 5 (fBin gAdd (fVar 5) (fLst (fCons (fTup (fCons (fC (.str "guard e behind ab.0 delay opens g")) (fCons (fC (.int 27)) fNil))) (fCons (fTup (fCons (fC (.str "guard e behind ab.0 delay 0 opens")) (fCons (fC (.int 34)) fNil))) fNil))))) (sSeq (sSet 5 (fBin gAdd (fVar 5) (fLst (fCons (fTup (fCons (fC (.str "guard e behind ab.0 delay 0 opens g,")) (fCons (fC (.int 36)) fNil))) (fCons (fTup (fCons (fC (.str "guard e near ab.0 delay 0 opens g")) (fCons (fC (.int 9)) fNil))) (fCons (fTup (fCons (fC (.str "guard e difference ab.0 1 delay 0 opens g")) (fCons (fC (.int 22)) fNil))) fNil)))))) (sSeq (sSet 5 (fBin gAdd (fVar 5) (fLst (fCons (fTup (fCons (fC (.str "guard e difference ab 1 /2 delay 0 opens g")) (fCons (fC (.int 25)) fNil))) (fCons (fTup (fCons (fC (.str "guard")) (fCons (fC (.int 6)) fNil))) (fCons (fTup (fCons (fC (.str "$")) (fCons (fC (.int 1)) fNil))) fNil)))))) K))))))))))
theorem law_is : F_law = (sSeq Ls0 (sSeq Ls1 (sSeq Ls2 (sSeq Ls3 (sSeq Ls4 (Lseg (sSeq Ls15 (sSeq Ls16 (sSeq Ls17 Ls18))))))))) := rfl

def it (p : Str × Int) : Dat := .tuple [.str p.1, .int p.2]
theorem seq_nx {F K : FS} {e e1 : Lcs} {s s1 : Sto} (h : F e s = .nx e1 s1) : sSeq F K e s = K e1 s1 := by
  simp only [sSeq, h, Flo.seq]
theorem seg_ (K : FS) (sl : Dat) (n : Nat) (c : Cel) : Lseg K [.fz sl, .fz (cel 0), .fz (.str (gap n)), .fz (.str (headT n)), .fz (.str (rightT n)), .un, .un, .un] [c] = K (Es sl n (.list (W.map it)) .un .un) [c] := by kernel_rfl
theorem low_ints (n : Nat) : ∀ cs : List Int, lowL n (cs.map PyData.int) = true
  | [] => rfl
  | i :: cs => by simp [lowL, low, low_ints n cs]
theorem loop_ {n : Nat} (h : n < 3) (sl L : Dat) {c : Cel} (hc : lowC 1 c = true) : ∀ (ds : List (Str × Int)), (∀ p ∈ ds, p ∈ W) → ∀ a b, ∃ a' b', forL (gTupT 2 (gsCons (gSet 6) (gsCons (gSet 7) gsNil))) B1_law (ds.map it) (Es sl n L a b) [c] = .nx (Es sl n L a' b') [c]
  | [], _, a, b => ⟨a, b, rfl⟩
  | p :: ds, hp, a, b => by
    obtain ⟨a', b', e⟩ := loop_ h sl L hc ds (fun q hq => hp q (List.mem_cons_of_mem _ hq)) (.fz (.str p.1)) (.fz (.int p.2))
    refine ⟨a', b', ?_⟩
    have st := step_ h (hp p (by simp)) sl L hc
    have g : gTupT 2 (gsCons (gSet 6) (gsCons (gSet 7) gsNil)) (it p) (Es sl n L a b) [c] = .ok (Es sl n L (.fz (.str p.1)) (.fz (.int p.2))) [c] := rfl
    rw [List.map_cons, forL, g]
    show (match B1_law (Es sl n L (.fz (.str p.1)) (.fz (.int p.2))) [c] with
      | .nx e2 s2 => forL _ _ (ds.map it) e2 s2
      | .ct e2 s2 => forL _ _ (ds.map it) e2 s2
      | .bk e2 s2 => .nx e2 s2
      | .rt d s2 => .rt d s2
      | .ex x e2 s2 => .ex x e2 s2
      | .bad => .bad) = _
    rw [st]
    exact e
theorem nl_app (t x y : Str) (h : ("\n" : Str) ++ x = y) : t ++ "\n" ++ x = t ++ y := by rw [← h, app_assoc]
theorem Ls4_ok {n : Nat} (h : n < 3) (sl : Dat) {c : Cel} (hc : lowC 1 c = true) : Ls4 [.fz sl, .fz (cel 0), .fz (.str (gap n)), .fz (.str (headT n)), .fz (.str (rightT n)), .un, .un, .un] [c] = .nx [.fz sl, .fz (cel 0), .fz (.str (gap n)), .fz (.str (headT n)), .fz (.str (rightT n)), .un, .un, .un] [c] := by
  have q := place_whole h hc
  unfold Ls4
  simp [q]
theorem Ls16_ok {n : Nat} (h : n < 3) (sl L : Dat) (a b : Slt) {c : Cel} (hc : lowC 1 c = true) : Ls16 (Es sl n L a b) [c] = .nx (Es sl n L a b) [c] := by
  have q1 := tail_ h tc0 (by decide +kernel) (by decide +kernel) hc
  rw [nl_app _ _ "\nticks 3" (by decide +kernel)] at q1
  have q2 := place_bare h hc
  have r1 : gNe (.tuple [.int 9, .int 1]) (.tuple [.int 9, .int 1]) [c] = .ok (.bool false) [c] := by kernel_rfl
  have r2 : gNe (.tuple [.int 7, .int 1]) (.tuple [.int 7, .int 1]) [c] = .ok (.bool false) [c] := by kernel_rfl
  have lr := len_right h
  have l1 : ("\nticks 3" : Str).length = 8 := by decide +kernel
  have z1 : (rightT n).length + 8 ≤ 16777216 := by omega
  unfold Ls16 Es
  simp [q1, q2, r1, r2, l1, z1]
theorem Ls17_ok {n : Nat} (h : n < 3) (sl L : Dat) (a b : Slt) {c : Cel} (hc : lowC 1 c = true) : Ls17 (Es sl n L a b) [c] = .nx (Es sl n L a b) [c] := by
  have q1 := place_empty hc
  have q2 := place_none hc
  have q3 := place_seven hc
  have r1 : gNe (.tuple [.int 1, .int 1]) (.tuple [.int 1, .int 1]) [c] = .ok (.bool false) [c] := by kernel_rfl
  have r2 : gNe (.tuple [.int 0, .int 0]) (.tuple [.int 0, .int 0]) [c] = .ok (.bool false) [c] := by kernel_rfl
  unfold Ls17 Es
  simp [q1, q2, q3, r1, r2]
theorem Ls18_ok {n : Nat} (h : n < 3) (sl L : Dat) (a b : Slt) {c : Cel} (hc : lowC 1 c = true) : Ls18 (Es sl n L a b) [c] = .rt (.bool true) [c] := by
  have q1 := tail_ h tc1 (by decide +kernel) (by decide +kernel) hc
  have q2 := tail_ h tc2 (by decide +kernel) (by decide +kernel) hc
  have q3 := tail_ h tc3 (by decide +kernel) (by decide +kernel) hc
  rw [nl_app _ _ "\nbus ab" (by decide +kernel)] at q1
  rw [nl_app _ _ "\nsource h c 2" (by decide +kernel)] at q2
  rw [nl_app _ _ "\nguard f difference c 1 delay 0 opens g" (by decide +kernel)] at q3
  have r1 : gEq (.str "net") (.str "net") [c] = .ok (.bool true) [c] := by kernel_rfl
  have lr := len_right h
  have l1 : ("\nbus ab" : Str).length = 7 := by decide +kernel
  have l2 : ("\nsource h c 2" : Str).length = 13 := by decide +kernel
  have l3 : ("\nguard f difference c 1 delay 0 opens g" : Str).length = 39 := by decide +kernel
  have z1 : (rightT n).length + 7 ≤ 16777216 := by omega
  have z2 : (rightT n).length + 13 ≤ 16777216 := by omega
  have z3 : (rightT n).length + 39 ≤ 16777216 := by omega
  unfold Ls18 Es
  simp [q1, q2, q3, r1, l1, l2, l3, z1, z2, z3]
def E4 (sl : Dat) (n : Nat) : Lcs := [.fz sl, .fz (cel 0), .fz (.str (gap n)), .fz (.str (headT n)), .fz (.str (rightT n)), .un, .un, .un]
theorem len_gap {n : Nat} (h : n < 3) : (gap n).length ≤ 3 := by
  rcases (by omega : n = 0 ∨ n = 1 ∨ n = 2) with rfl | rfl | rfl <;> decide +kernel
theorem s3_ok {n : Nat} (h : n < 3) (sl : Dat) (s : Sto) : Ls2 [.fz sl, .fz (cel 0), .fz (.str (gap n)), .un, .un, .un, .un, .un] s = .nx [.fz sl, .fz (cel 0), .fz (.str (gap n)), .fz (.str (headT n)), .un, .un, .un, .un] s := by
  have l1 : ("bus a\nbus" : Str).length = 9 := by decide +kernel
  have l2 : ("b\nline ab a b 10\nsource g a 3\nerror 1/10\nbreaker 1 2\n" : Str).length = 53 := by decide +kernel
  have lg := len_gap h
  have z1 : 9 + (gap n).length ≤ 16777216 := by omega
  have z2 : 9 + (gap n).length + 53 ≤ 16777216 := by omega
  unfold Ls2 headT
  generalize gap n = g at *
  simp [len_app, l1, l2, z1, z2]
theorem s4_ok {n : Nat} (h : n < 3) (sl : Dat) (s : Sto) : Ls3 [.fz sl, .fz (cel 0), .fz (.str (gap n)), .fz (.str (headT n)), .un, .un, .un, .un] s = .nx (E4 sl n) s := by
  have l1 : ("ticks 10\n\x67uard d difference ab 1/1000 delay 0 opens ab.0 ab.1" : Str).length = 61 := by decide +kernel
  have lh := len_head h
  have z1 : (headT n).length + 61 ≤ 16777216 := by omega
  unfold Ls3 E4 rightT
  generalize headT n = g at *
  simp [l1, z1]
theorem s1_ok (sl : List Int) (cs : List Int) (hcs : cutD (sl.map PyData.int) none (some 63) = cs.map PyData.int) : Ls0 [.fz (seal_ sl), .un, .un, .un, .un, .un, .un, .un] [] = .nx [.fz (seal_ sl), .fz (cel 0), .un, .un, .un, .un, .un, .un] (dst cs 0) := by
  unfold Ls0
  simp [hcs]
theorem s2_ok {n : Nat} (h : n < 3) (sl : Dat) (cs : List Int) (hv : g__law_next [cel 0, .int 3] (dst cs 0) = .ok (.int n) (dst cs 1)) : Ls1 [.fz sl, .fz (cel 0), .un, .un, .un, .un, .un, .un] (dst cs 0) = .nx [.fz sl, .fz (cel 0), .fz (.str (gap n)), .un, .un, .un, .un, .un] (dst cs 1) := by
  have sr : strRep " " (1 + n) = gap n := by
    rcases (by omega : n = 0 ∨ n = 1 ∨ n = 2) with rfl | rfl | rfl <;> decide +kernel
  have l1 : (" " : Str).length = 1 := by decide +kernel
  have z1 : (0 : Int) ≤ 1 + n := by omega
  have z2 : (1 : Int) + n ≤ 1000 := by omega
  unfold Ls1
  simp [hv, sr, l1, z1, z2]
theorem s5_ok (sl : Dat) (n : Nat) (ds : List Dat) (a b : Slt) (s : Sto) : Ls15 (Es sl n (.list ds) a b) s = forL (gTupT 2 (gsCons (gSet 6) (gsCons (gSet 7) gsNil))) B1_law ds (Es sl n (.list ds) a b) s := by kernel_rfl
theorem law_true (ns : List Int) (h : ns.length ≤ 63) : ∃ s, g_law [seal_ ns] [] = .ok (.bool true) s := by
  have hcut : ∃ cs : List Int, cutD (ns.map PyData.int) none (some 63) = cs.map PyData.int := by
    unfold cutD
    exact ⟨_, by rw [← List.map_drop, ← List.map_take]⟩
  obtain ⟨cs, hcs⟩ := hcut
  obtain ⟨v, v0, v1, hv⟩ := next_ok cs 0 3 (by decide) (by decide) (by decide)
  obtain ⟨n, rfl⟩ : ∃ n : Nat, v = n := ⟨v.toNat, by omega⟩
  have hn : n < 3 := by omega
  have lc : lowC 1 (.ls [.list (cs.map PyData.int), .int 0, .int 1]) = true := by simp [lowC, lowL, low, low_ints]
  obtain ⟨a', b', lo⟩ := loop_ hn (seal_ ns) (.list (W.map it)) lc W (fun p hp => hp) .un .un
  have s5 : Ls15 (Es (seal_ ns) n (.list (W.map it)) .un .un) (dst cs 1) = .nx (Es (seal_ ns) n (.list (W.map it)) a' b') (dst cs 1) := by
    rw [s5_ok]
    exact lo
  refine ⟨dst cs 1, ?_⟩
  have e : F_law [.fz (seal_ ns), .un, .un, .un, .un, .un, .un, .un] [] = .rt (.bool true) (dst cs 1) := by
    rw [law_is, seq_nx (s1_ok ns cs hcs), seq_nx (s2_ok hn _ cs hv), seq_nx (s3_ok hn _ _), seq_nx (s4_ok hn _ _)]
    refine (seq_nx (Ls4_ok hn _ lc)).trans ?_
    refine (seg_ _ _ n _).trans ?_
    refine (seq_nx s5).trans ?_
    refine (seq_nx (Ls16_ok hn _ _ _ _ lc)).trans ?_
    refine (seq_nx (Ls17_ok hn _ _ _ _ lc)).trans ?_
    exact Ls18_ok hn _ _ _ _ lc
  have r : runF 1 8 F_law [seal_ ns] [] = .ok (.bool true) (dst cs 1) := by
    unfold runF
    rw [if_pos (show [seal_ ns].length = 1 from rfl)]
    show (match F_law [.fz (seal_ ns), .un, .un, .un, .un, .un, .un, .un] [] with
      | .nx _ s' => Res.ok PyData.none s'
      | .rt d s' => .ok d s'
      | .ex x _ s' => .ex x s'
      | _ => .bad) = _
    rw [e]
  show (runF 1 8 F_law [seal_ ns] []).noex = _
  rw [r]
  rfl
end LW

namespace LW
open PySem PySem.Spec PyProof.Rows L2 DL
def topS (i : Nat) : Stmt := PySem.Challenge.pw_justthepart_k07_wrong_texts.main.body.getD i (.Pass ⟨0, 0, 0, 0⟩)
def inS (i j : Nat) : Stmt := match topS i with
  | .ClassDef _ _ _ body _ _ _ _ _ _ _ => body.getD j (.Pass ⟨0, 0, 0, 0⟩)
  | s => s
abbrev s_BadText : Stmt := inS 2 0
abbrev s_BadNet : Stmt := inS 3 0
end LW

namespace PySem
namespace ExF
open PySem.W PySem.Calls PyProof.Rows PySem.HandSPX
def iB_BadText (p : Nat → Pos) : List Stmt := [.Assign [.Attribute (.Name "self" (p 0)) "line" (p 1)] (.Name "line" (p 2)) (p 3), .Assign [.Attribute (.Name "self" (p 4)) "column" (p 5)] (.Name "column" (p 6)) (p 7)]
/-- what the written part says of BadText -/
structure Tx_BadText (K : Frag) (C B fI : Addr) : Prop where
  ex : ExC K C B fI
  no1 : findIn K (.ref C) "line" = some none
  no2 : findIn K (.ref C) "column" = some none
  fn : ∃ (oc : Value) (od : Option Addr) (kV doc pm : Value) (an : Option Addr) (cdv ct : Value) (osl : Array (Option Value)), K.lookup fI = some ⟨oc, od, .func (fnOf "__init__" "BadText.__init__" (L2.defArgs LW.s_BadText) (L2.defBody LW.s_BadText) (L2.defScope LW.s_BadText) .none kV doc pm an cdv ct), osl⟩ ∧ codeIn K cdv "BadText.__init__" = true
def fm_BadText (us : List Value) : Str → Option Value := fun y => if y = "column" then us[1]? else if y = "line" then us[0]? else none
theorem body_BadText : ∃ p : Nat → Pos, L2.defBody LW.s_BadText = iB_BadText p := ⟨fun i => ([⟨7, 8, 7, 12⟩, ⟨7, 8, 7, 17⟩, ⟨7, 20, 7, 24⟩, ⟨7, 8, 7, 24⟩, ⟨8, 8, 8, 12⟩, ⟨8, 8, 8, 19⟩, ⟨8, 22, 8, 28⟩, ⟨8, 8, 8, 28⟩] : List Pos).getD i ⟨0, 0, 0, 0⟩, by first | rfl | with_unfolding_all rfl | kernel_rfl⟩
theorem init_BadText {prog : Program} {w : World} {K : Frag} {C B fI : Addr} (T : Tx_BadText K C B fI) {v1 v2 : Value} {A : Around} {R : Result → Shared → Prop} {s : Shared} {x t0 : Addr} (X : K.In s.heap) (hlim : s.heap.NoLimit) (hx : s.heap.get? x = some (excO C t0)) (hnx : K.lookup x = none) (hroom : A.depth < recursionLimit)
    (hq : ∀ h2 tk d, Begun s.heap h2 x C d t0 (fm_BadText [v1, v2]) → R (.ok (.ret .none)) { s with heap := h2, toks := tk }) : codeAny (model prog w) A (.call (.ref fI) ⟨[.ref x, v1, v2], []⟩) R s := by
  obtain ⟨oc, od, kV, doc, pm, an, cdv, ct, osl, ho, hcd⟩ := T.fn
  obtain ⟨nm, q, N, bs, sn, sub, ab, col, dd, k0, k1, k2, k3, k5, hC⟩ := T.ex.cls
  have hcl : clsIn K C = some { name := nm, bases := bs, mro := .ref C :: [.ref B, .type "Exception", .type "BaseException", .type "object"], ns := N, qualname := q, hasDict := true, slotNames := sn, subclasses := sub, abstract := ab, collection := col, hasDel := false } := by unfold clsIn; rw [hC] <;> rfl
  refine Att.call_fn (binds := [("self", .ref x), ("line", v1), ("column", v2)]) X hlim ho hcd hroom (BindsTo.of_eq (by first | rfl | with_unfolding_all rfl)) (by first | rfl | decide | with_unfolding_all rfl) (fun s1 IC => ?_) rfl rfl rfl
  obtain ⟨h1, tk1, rfl⟩ := IC.toInCall.same
  have k : ∀ b o, s.heap.get? b = some o → h1.get? b = some o := IC.toInCall.keep
  have hn := IC.toInCall.ns
  have hxL : s.heap.objs.size ≠ x := Nat.ne_of_gt (Heap.lt_size hx)
  have X1 : K.In h1 := X.keeps k
  have hx1 := k _ _ hx
  have big1 : s.heap.objs.size < h1.objs.size := hn.lt
  obtain ⟨p, hp⟩ := body_BadText
  show wpAny _ _ (execs (L2.defBody LW.s_BadText) _) _ _ _
  rw [hp]
  show wpAny _ _ (execs [.Assign [.Attribute (.Name "self" (p 0)) "line" (p 1)] (.Name "line" (p 2)) (p 3), .Assign [.Attribute (.Name "self" (p 4)) "column" (p 5)] (.Name "column" (p 6)) (p 7)] _) _ _ _
  refine wpAny_execs_cons (plainObj_wpAny_Assign_Attribute ?_)
  refine ld_local (v := v1) hn (by first | rfl | with_unfolding_all rfl | kernel_rfl) (ld_local (v := .ref x) hn (by first | rfl | with_unfolding_all rfl | kernel_rfl) ?_)
  refine set_plain X1 (ox := excO C t0) (od := none) ⟨hx1, rfl, rfl, trivial⟩ T.ex.sa ?_
  refine put_first X1 hx1 hcl (chain2 C B) rfl T.no1 (fun h3 tk3 dx k3 big3 ne3 hx3 hn3 => ?_)
  have X3 : K.In h3 := kept_in X1 hnx k3
  have hnL : h3.Ns s.heap.objs.size _ := hn.at fun o q => k3 _ o hxL q
  have ndL : s.heap.objs.size ≠ dx := Nat.ne_of_lt (Nat.lt_of_lt_of_le big1 big3)
  show wpAny _ _ (execs [_] _) _ _ _
  refine wpAny_execs_cons (plainObj_wpAny_Assign_Attribute ?_)
  refine ld_local (v := v2) hnL (by first | rfl | with_unfolding_all rfl | kernel_rfl) (ld_local (v := .ref x) hnL (by first | rfl | with_unfolding_all rfl | kernel_rfl) ?_)
  obtain ⟨oD, esD, epD, hoD, hdD, _⟩ := hn3.count (Within.cons "line" v1 Within.nil)
  refine set_plain X3 (od := some oD) ⟨hx3, rfl, rfl, hoD⟩ T.ex.sa ?_
  refine put_next (nl := ["line"]) X3 hx3 hn3 (Within.cons "line" v1 Within.nil) (by decide) hcl (chain2 C B) rfl T.no2 (fun h4 tk4 k4 hn4 => ?_)
  show wpAny _ _ (execs _ _) _ _ _
  exact wpAny_execs_nil (hq h4 tk4 dx ⟨fun b o hb e => k4 b o (fun z => by
    subst z
    exact absurd (Nat.lt_of_lt_of_le (Heap.lt_size (k b o e)) big3) (Nat.lt_irrefl _)) (k3 b o hb (k b o e)), k4 x _ (Ne.symm ne3) hx3, Nat.le_of_lt (Nat.lt_of_lt_of_le big1 big3), ne3, hn4⟩)
end ExF
end PySem
namespace LW
open PySem PySem.Spec PyProof.Rows L2 DL PySem.ExF
theorem rel_BadText (vs : List V) (us : List Value) (r : Vals vs us) (hl : vs.length = 2) (f : Str) : RelO (((["line", "column"] : List Str).zip vs).lookup f) (fm_BadText us f) := by
  match vs, us, r, hl with
  | [a, b], _, .cons r1 (.cons r2 .nil), _ =>
    unfold fm_BadText
    by_cases h : f = "column"
    · subst h
      have q : (("column" : Str) == ("line" : Str)) = false := by decide
      simpa [List.lookup, q] using (show RelO (some b) (some _) from r2)
    · have q : (f == ("column" : Str)) = false := by simpa using h
      rw [if_neg h]
      by_cases h1 : f = "line"
      · subst h1
        simpa [List.lookup] using (show RelO (some a) (some _) from r1)
      · have q1 : (f == ("line" : Str)) = false := by simpa using h1
        rw [if_neg h1]
        simp only [List.zip_cons_cons, List.zip_nil_left, List.lookup, q, q1]
        trivial
theorem pmk_BadText {X : Cx} {C B fI : Addr} {a1 a2 : Expr} {ta : TA} {p pos : Pos} {k : Nat} (T : Tx_BadText X.K C B fI) (hmg : X.mg "BadText" = some (.ref C)) (hr : Room k X.A) (ha : PA X [a1, a2] ta) (hg : Gl X "BadText" := by rfl)
    (he : starEach [a1, a2] X.env = (false, eval a1 X.env) :: starEach [a2] X.env := by rfl) (hpl : (backTo pos (starEach [a2] X.env)).any (·.1) = false := by rfl) : PMk X (.Call (.Name "BadText" p) [a1, a2] [] pos) (tMkEx C ["line", "column"] ta) :=
  pmk_ex T.ex (by decide) hmg hr ha fm_BadText (fun {A R s us} hl X1 hlim hroom hq => by
    match us, hl with
    | [v1, v2], _ => exact made_of T.ex (by simp) X1 hlim hroom (fun X2 h2 h3 h4 h5 h6 => init_BadText T X2 h2 h3 h4 h5 h6) hq) rel_BadText hg (by decide) he hpl
end LW


namespace PySem
namespace ExF
open PySem.W PySem.Calls PyProof.Rows PySem.HandSPX
def iB_BadNet (p : Nat → Pos) : List Stmt := [.Assign [.Attribute (.Name "self" (p 0)) "name" (p 1)] (.Name "name" (p 2)) (p 3), .Assign [.Attribute (.Name "self" (p 4)) "why" (p 5)] (.Name "why" (p 6)) (p 7)]
/-- what the written part says of BadNet -/
structure Tx_BadNet (K : Frag) (C B fI : Addr) : Prop where
  ex : ExC K C B fI
  no1 : findIn K (.ref C) "name" = some none
  no2 : findIn K (.ref C) "why" = some none
  fn : ∃ (oc : Value) (od : Option Addr) (kV doc pm : Value) (an : Option Addr) (cdv ct : Value) (osl : Array (Option Value)), K.lookup fI = some ⟨oc, od, .func (fnOf "__init__" "BadNet.__init__" (L2.defArgs LW.s_BadNet) (L2.defBody LW.s_BadNet) (L2.defScope LW.s_BadNet) .none kV doc pm an cdv ct), osl⟩ ∧ codeIn K cdv "BadNet.__init__" = true
def fm_BadNet (us : List Value) : Str → Option Value := fun y => if y = "why" then us[1]? else if y = "name" then us[0]? else none
theorem body_BadNet : ∃ p : Nat → Pos, L2.defBody LW.s_BadNet = iB_BadNet p := ⟨fun i => ([⟨12, 8, 12, 12⟩, ⟨12, 8, 12, 17⟩, ⟨12, 20, 12, 24⟩, ⟨12, 8, 12, 24⟩, ⟨13, 8, 13, 12⟩, ⟨13, 8, 13, 16⟩, ⟨13, 19, 13, 22⟩, ⟨13, 8, 13, 22⟩] : List Pos).getD i ⟨0, 0, 0, 0⟩, by first | rfl | with_unfolding_all rfl | kernel_rfl⟩
theorem init_BadNet {prog : Program} {w : World} {K : Frag} {C B fI : Addr} (T : Tx_BadNet K C B fI) {v1 v2 : Value} {A : Around} {R : Result → Shared → Prop} {s : Shared} {x t0 : Addr} (X : K.In s.heap) (hlim : s.heap.NoLimit) (hx : s.heap.get? x = some (excO C t0)) (hnx : K.lookup x = none) (hroom : A.depth < recursionLimit)
    (hq : ∀ h2 tk d, Begun s.heap h2 x C d t0 (fm_BadNet [v1, v2]) → R (.ok (.ret .none)) { s with heap := h2, toks := tk }) : codeAny (model prog w) A (.call (.ref fI) ⟨[.ref x, v1, v2], []⟩) R s := by
  obtain ⟨oc, od, kV, doc, pm, an, cdv, ct, osl, ho, hcd⟩ := T.fn
  obtain ⟨nm, q, N, bs, sn, sub, ab, col, dd, k0, k1, k2, k3, k5, hC⟩ := T.ex.cls
  have hcl : clsIn K C = some { name := nm, bases := bs, mro := .ref C :: [.ref B, .type "Exception", .type "BaseException", .type "object"], ns := N, qualname := q, hasDict := true, slotNames := sn, subclasses := sub, abstract := ab, collection := col, hasDel := false } := by unfold clsIn; rw [hC] <;> rfl
  refine Att.call_fn (binds := [("self", .ref x), ("name", v1), ("why", v2)]) X hlim ho hcd hroom (BindsTo.of_eq (by first | rfl | with_unfolding_all rfl)) (by first | rfl | decide | with_unfolding_all rfl) (fun s1 IC => ?_) rfl rfl rfl
  obtain ⟨h1, tk1, rfl⟩ := IC.toInCall.same
  have k : ∀ b o, s.heap.get? b = some o → h1.get? b = some o := IC.toInCall.keep
  have hn := IC.toInCall.ns
  have hxL : s.heap.objs.size ≠ x := Nat.ne_of_gt (Heap.lt_size hx)
  have X1 : K.In h1 := X.keeps k
  have hx1 := k _ _ hx
  have big1 : s.heap.objs.size < h1.objs.size := hn.lt
  obtain ⟨p, hp⟩ := body_BadNet
  show wpAny _ _ (execs (L2.defBody LW.s_BadNet) _) _ _ _
  rw [hp]
  show wpAny _ _ (execs [.Assign [.Attribute (.Name "self" (p 0)) "name" (p 1)] (.Name "name" (p 2)) (p 3), .Assign [.Attribute (.Name "self" (p 4)) "why" (p 5)] (.Name "why" (p 6)) (p 7)] _) _ _ _
  refine wpAny_execs_cons (plainObj_wpAny_Assign_Attribute ?_)
  refine ld_local (v := v1) hn (by first | rfl | with_unfolding_all rfl | kernel_rfl) (ld_local (v := .ref x) hn (by first | rfl | with_unfolding_all rfl | kernel_rfl) ?_)
  refine set_plain X1 (ox := excO C t0) (od := none) ⟨hx1, rfl, rfl, trivial⟩ T.ex.sa ?_
  refine put_first X1 hx1 hcl (chain2 C B) rfl T.no1 (fun h3 tk3 dx k3 big3 ne3 hx3 hn3 => ?_)
  have X3 : K.In h3 := kept_in X1 hnx k3
  have hnL : h3.Ns s.heap.objs.size _ := hn.at fun o q => k3 _ o hxL q
  have ndL : s.heap.objs.size ≠ dx := Nat.ne_of_lt (Nat.lt_of_lt_of_le big1 big3)
  show wpAny _ _ (execs [_] _) _ _ _
  refine wpAny_execs_cons (plainObj_wpAny_Assign_Attribute ?_)
  refine ld_local (v := v2) hnL (by first | rfl | with_unfolding_all rfl | kernel_rfl) (ld_local (v := .ref x) hnL (by first | rfl | with_unfolding_all rfl | kernel_rfl) ?_)
  obtain ⟨oD, esD, epD, hoD, hdD, _⟩ := hn3.count (Within.cons "name" v1 Within.nil)
  refine set_plain X3 (od := some oD) ⟨hx3, rfl, rfl, hoD⟩ T.ex.sa ?_
  refine put_next (nl := ["name"]) X3 hx3 hn3 (Within.cons "name" v1 Within.nil) (by decide) hcl (chain2 C B) rfl T.no2 (fun h4 tk4 k4 hn4 => ?_)
  show wpAny _ _ (execs _ _) _ _ _
  exact wpAny_execs_nil (hq h4 tk4 dx ⟨fun b o hb e => k4 b o (fun z => by
    subst z
    exact absurd (Nat.lt_of_lt_of_le (Heap.lt_size (k b o e)) big3) (Nat.lt_irrefl _)) (k3 b o hb (k b o e)), k4 x _ (Ne.symm ne3) hx3, Nat.le_of_lt (Nat.lt_of_lt_of_le big1 big3), ne3, hn4⟩)
end ExF
end PySem
namespace LW
open PySem PySem.Spec PyProof.Rows L2 DL PySem.ExF
theorem rel_BadNet (vs : List V) (us : List Value) (r : Vals vs us) (hl : vs.length = 2) (f : Str) : RelO (((["name", "why"] : List Str).zip vs).lookup f) (fm_BadNet us f) := by
  match vs, us, r, hl with
  | [a, b], _, .cons r1 (.cons r2 .nil), _ =>
    unfold fm_BadNet
    by_cases h : f = "why"
    · subst h
      have q : (("why" : Str) == ("name" : Str)) = false := by decide
      simpa [List.lookup, q] using (show RelO (some b) (some _) from r2)
    · have q : (f == ("why" : Str)) = false := by simpa using h
      rw [if_neg h]
      by_cases h1 : f = "name"
      · subst h1
        simpa [List.lookup] using (show RelO (some a) (some _) from r1)
      · have q1 : (f == ("name" : Str)) = false := by simpa using h1
        rw [if_neg h1]
        simp only [List.zip_cons_cons, List.zip_nil_left, List.lookup, q, q1]
        trivial
theorem pmk_BadNet {X : Cx} {C B fI : Addr} {a1 a2 : Expr} {ta : TA} {p pos : Pos} {k : Nat} (T : Tx_BadNet X.K C B fI) (hmg : X.mg "BadNet" = some (.ref C)) (hr : Room k X.A) (ha : PA X [a1, a2] ta) (hg : Gl X "BadNet" := by rfl)
    (he : starEach [a1, a2] X.env = (false, eval a1 X.env) :: starEach [a2] X.env := by rfl) (hpl : (backTo pos (starEach [a2] X.env)).any (·.1) = false := by rfl) : PMk X (.Call (.Name "BadNet" p) [a1, a2] [] pos) (tMkEx C ["name", "why"] ta) :=
  pmk_ex T.ex (by decide) hmg hr ha fm_BadNet (fun {A R s us} hl X1 hlim hroom hq => by
    match us, hl with
    | [v1, v2], _ => exact made_of T.ex (by simp) X1 hlim hroom (fun X2 h2 h3 h4 h5 h6 => init_BadNet T X2 h2 h3 h4 h5 h6) hq) rel_BadNet hg (by decide) he hpl
end LW

namespace LW
open PySem PySem.Spec PyProof.Rows L2 DL
abbrev s_common : Stmt := topS 5
theorem sc_common : FnScope ["a", "b"] ["a", "b"] (defScope s_common) := ⟨rfl, rfl, rfl, by decide +kernel, rfl, by decide +kernel, by decide +kernel⟩
abbrev s_frac : Stmt := topS 6
theorem sc_frac : FnScope ["n", "d", "by"] ["n", "d"] (defScope s_frac) := ⟨rfl, rfl, rfl, by decide +kernel, rfl, by decide +kernel, by decide +kernel⟩
abbrev s_is_frac : Stmt := topS 7
theorem sc_is_frac : FnScope ["thing", "one"] ["thing"] (defScope s_is_frac) := ⟨rfl, rfl, rfl, by decide +kernel, rfl, by decide +kernel, by decide +kernel⟩
abbrev s_sign_of : Stmt := topS 8
theorem sc_sign_of : FnScope ["number"] ["number"] (defScope s_sign_of) := ⟨rfl, rfl, rfl, by decide +kernel, rfl, by decide +kernel, by decide +kernel⟩
abbrev s_compare : Stmt := topS 9
theorem sc_compare : FnScope ["a", "b"] ["a", "b"] (defScope s_compare) := ⟨rfl, rfl, rfl, by decide +kernel, rfl, by decide +kernel, by decide +kernel⟩
abbrev s_is_name : Stmt := topS 21
theorem sc_is_name : FnScope ["thing", "sign"] ["thing"] (defScope s_is_name) := ⟨rfl, rfl, rfl, by decide +kernel, rfl, by decide +kernel, by decide +kernel⟩
abbrev s_is_whole : Stmt := topS 22
theorem sc_is_whole : FnScope ["thing", "least", "most"] ["thing", "least", "most"] (defScope s_is_whole) := ⟨rfl, rfl, rfl, by decide +kernel, rfl, by decide +kernel, by decide +kernel⟩
abbrev s_breakers_of : Stmt := topS 23
theorem sc_breakers_of : FnScope ["net", "found", "line", "end", "source"] ["net"] (defScope s_breakers_of) := ⟨rfl, rfl, rfl, by decide +kernel, rfl, by decide +kernel, by decide +kernel⟩
abbrev s_is_above : Stmt := topS 25
theorem sc_is_above : FnScope ["thing"] ["thing"] (defScope s_is_above) := ⟨rfl, rfl, rfl, by decide +kernel, rfl, by decide +kernel, by decide +kernel⟩
abbrev s_is_told : Stmt := topS 24
theorem sc_is_told : FnScope ["told", "breakers", "parts", "word"] ["told", "breakers", "parts"] (defScope s_is_told) := ⟨rfl, rfl, rfl, by decide +kernel, rfl, by decide +kernel, by decide +kernel⟩
abbrev s_is_rules : Stmt := topS 26
theorem sc_is_rules : FnScope ["rules", "error", "least", "most", "ticks"] ["rules"] (defScope s_is_rules) := ⟨rfl, rfl, rfl, by decide +kernel, rfl, by decide +kernel, by decide +kernel⟩
abbrev s_check : Stmt := topS 27
theorem sc_check : FnScope ["is_right", "name", "why"] ["is_right", "name", "why"] (defScope s_check) := ⟨rfl, rfl, rfl, by decide +kernel, rfl, by decide +kernel, by decide +kernel⟩
abbrev s_check_lists : Stmt := topS 28
theorem sc_check_lists : FnScope ["net", "buses", "lines", "sources", "guards", "rules", "names", "thing", "line", "source", "one", "bus"] ["net"] (defScope s_check_lists) := ⟨rfl, rfl, rfl, by decide +kernel, rfl, by decide +kernel, by decide +kernel⟩
abbrev s_check_net : Stmt := topS 29
theorem sc_check_net : FnScope ["net", "buses", "lines", "sources", "guards", "rules", "breakers", "parts", "guard", "opens", "line", "one", "other"] ["net"] (defScope s_check_net) := ⟨rfl, rfl, rfl, by decide +kernel, rfl, by decide +kernel, by decide +kernel⟩
abbrev s_LineReader_skip : Stmt := inS 33 1
theorem sc_LineReader_skip : FnScope ["self"] ["self"] (defScope s_LineReader_skip) := ⟨rfl, rfl, rfl, by decide +kernel, rfl, by decide +kernel, by decide +kernel⟩
abbrev s_LineReader_end_of : Stmt := inS 33 4
theorem sc_LineReader_end_of : FnScope ["self", "signs", "at"] ["self", "signs"] (defScope s_LineReader_end_of) := ⟨rfl, rfl, rfl, by decide +kernel, rfl, by decide +kernel, by decide +kernel⟩
abbrev s_LineReader_word : Stmt := inS 33 5
theorem sc_LineReader_word : FnScope ["self"] ["self"] (defScope s_LineReader_word) := ⟨rfl, rfl, rfl, by decide +kernel, rfl, by decide +kernel, by decide +kernel⟩
abbrev s_LineReader_wrong : Stmt := inS 33 2
theorem sc_LineReader_wrong : FnScope ["self"] ["self"] (defScope s_LineReader_wrong) := ⟨rfl, rfl, rfl, by decide +kernel, rfl, by decide +kernel, by decide +kernel⟩
abbrev s_LineReader_name_next : Stmt := inS 33 8
theorem sc_LineReader_name_next : FnScope ["self", "found"] ["self"] (defScope s_LineReader_name_next) := ⟨rfl, rfl, rfl, by decide +kernel, rfl, by decide +kernel, by decide +kernel⟩
abbrev s_LineReader_taken : Stmt := inS 33 6
theorem sc_LineReader_taken : FnScope ["self", "word"] ["self", "word"] (defScope s_LineReader_taken) := ⟨rfl, rfl, rfl, by decide +kernel, rfl, by decide +kernel, by decide +kernel⟩
abbrev s_LineReader_want : Stmt := inS 33 7
theorem sc_LineReader_want : FnScope ["self", "word"] ["self", "word"] (defScope s_LineReader_want) := ⟨rfl, rfl, rfl, by decide +kernel, rfl, by decide +kernel, by decide +kernel⟩
abbrev s_LineReader_apart : Stmt := inS 33 10
theorem sc_LineReader_apart : FnScope ["self", "found"] ["self", "found"] (defScope s_LineReader_apart) := ⟨rfl, rfl, rfl, by decide +kernel, rfl, by decide +kernel, by decide +kernel⟩
abbrev s_LineReader_breaker : Stmt := inS 33 12
theorem sc_LineReader_breaker : FnScope ["self", "name", "end"] ["self"] (defScope s_LineReader_breaker) := ⟨rfl, rfl, rfl, by decide +kernel, rfl, by decide +kernel, by decide +kernel⟩
abbrev s_read_breaker : Stmt := topS 35
theorem sc_read_breaker : FnScope ["reader", "lines", "start", "found", "is_ended"] ["reader", "lines"] (defScope s_read_breaker) := ⟨rfl, rfl, rfl, by decide +kernel, rfl, by decide +kernel, by decide +kernel⟩
abbrev s_LineReader_number_next : Stmt := inS 33 9
theorem sc_LineReader_number_next : FnScope ["self", "found"] ["self"] (defScope s_LineReader_number_next) := ⟨rfl, rfl, rfl, by decide +kernel, rfl, by decide +kernel, by decide +kernel⟩
abbrev s_LineReader_fraction : Stmt := inS 33 11
theorem sc_LineReader_fraction : FnScope ["self", "n", "d", "start"] ["self"] (defScope s_LineReader_fraction) := ⟨rfl, rfl, rfl, by decide +kernel, rfl, by decide +kernel, by decide +kernel⟩
abbrev s_read_told : Stmt := topS 36
theorem sc_read_told : FnScope ["reader", "lines", "breaker", "number", "part"] ["reader", "lines"] (defScope s_read_told) := ⟨rfl, rfl, rfl, by decide +kernel, rfl, by decide +kernel, by decide +kernel⟩
abbrev s_LineReader_is_over : Stmt := inS 33 3
theorem sc_LineReader_is_over : FnScope ["self"] ["self"] (defScope s_LineReader_is_over) := ⟨rfl, rfl, rfl, by decide +kernel, rfl, by decide +kernel, by decide +kernel⟩
abbrev s_read_guard : Stmt := topS 34
theorem sc_read_guard : FnScope ["reader", "lines", "name", "told", "delay", "opens"] ["reader", "lines"] (defScope s_read_guard) := ⟨rfl, rfl, rfl, by decide +kernel, rfl, by decide +kernel, by decide +kernel⟩
abbrev s_read_line : Stmt := topS 37
theorem sc_read_line : FnScope ["reader", "found", "name", "first", "second", "bus", "least", "line"] ["reader", "found"] (defScope s_read_line) := ⟨rfl, rfl, rfl, by decide +kernel, rfl, by decide +kernel, by decide +kernel⟩
abbrev s_LineReader___init__ : Stmt := inS 33 0
theorem sc_LineReader___init__ : FnScope ["self", "line", "number"] ["self", "line", "number"] (defScope s_LineReader___init__) := ⟨rfl, rfl, rfl, by decide +kernel, rfl, by decide +kernel, by decide +kernel⟩
abbrev s_read_net : Stmt := topS 38
theorem sc_read_net : FnScope ["text", "found", "lines", "number", "line", "rules", "net", "reader", "one"] ["text"] (defScope s_read_net) := ⟨rfl, rfl, rfl, by decide +kernel, rfl, by decide +kernel, by decide +kernel⟩
abbrev s__law_cell_at : Stmt := topS 40
theorem sc__law_cell_at : FnScope ["_law_script", "_law_k"] ["_law_script", "_law_k"] (defScope s__law_cell_at) := ⟨rfl, rfl, rfl, by decide +kernel, rfl, by decide +kernel, by decide +kernel⟩
abbrev s__law_draw : Stmt := topS 41
theorem sc__law_draw : FnScope ["_law_cell", "_law_k", "_law_bound", "_law_primes"] ["_law_cell", "_law_k", "_law_bound"] (defScope s__law_draw) := ⟨rfl, rfl, rfl, by decide +kernel, rfl, by decide +kernel, by decide +kernel⟩
abbrev s__law_number : Stmt := topS 42
theorem sc__law_number : FnScope ["_law_cell", "_law_k", "_law_bound", "_law_power", "_law_lap", "_law_remains", "_law_small"] ["_law_cell", "_law_k", "_law_bound"] (defScope s__law_number) := ⟨rfl, rfl, rfl, by decide +kernel, rfl, by decide +kernel, by decide +kernel⟩
abbrev s__law_next : Stmt := topS 43
theorem sc__law_next : FnScope ["_law_draw_here", "_law_bound", "_law_at", "_law_cell"] ["_law_draw_here", "_law_bound"] (defScope s__law_next) := ⟨rfl, rfl, rfl, by decide +kernel, rfl, by decide +kernel, by decide +kernel⟩
abbrev s__law_pick : Stmt := topS 44
theorem sc__law_pick : FnScope ["_law_draw_here", "_law_things"] ["_law_draw_here", "_law_things"] (defScope s__law_pick) := ⟨rfl, rfl, rfl, by decide +kernel, rfl, by decide +kernel, by decide +kernel⟩
abbrev s__law_place : Stmt := topS 45
theorem sc__law_place : FnScope ["_law_text", "e"] ["_law_text"] (defScope s__law_place) := ⟨rfl, rfl, rfl, by decide +kernel, rfl, by decide +kernel, by decide +kernel⟩
abbrev s_law : Stmt := topS 46
theorem sc_law : FnScope ["_law_script", "_law_draw_here", "_law_gap", "_law_head", "_law_right", "_law_wrong", "_law_text", "_law_column"] ["_law_script"] (defScope s_law) := ⟨rfl, rfl, rfl, by decide +kernel, rfl, by decide +kernel, by decide +kernel⟩
section
variable {P : Program} {w : World} {K : PySem.W.Frag} {mg : Str → Option Value} {base : Heap} {xc : Xc}
theorem ok_common {f : Addr} {fd : FuncData} (D : Fun K "common" "common" s_common f fd) (mm_abs : mg "abs" = none) : FnOk P w K mg base CX0 1 f fd ["a", "b"] (spX K xc g_common) :=
  def_ok D sc_common (by decide) fun cdv A outer s H E H0 as0 O0 hr => by
    have nd := sc_common.nd
    exact (ds_cons (ds_par 0 1 rfl nd (da_cons (de_abs mm_abs (da_cons (de_var 0) da_nil)) (da_cons (de_abs mm_abs (da_cons (de_var 1) da_nil)) da_nil)))
    (ds_cons (ds_while PassesOwn.never (dt_gt2 hr.units rfl (de_var 1) de_int) (ds_one (ds_par 0 1 rfl nd (da_cons (de_var 1) (da_cons (de_mod (de_var 0) (de_var 1)) da_nil)))))
    (ds_one (ds_ret (de_var 0)))))
theorem ok_frac {f : Addr} {fd : FuncData} (D : Fun K "frac" "frac" s_frac f fd) {f_common : Addr} {fd_common : FuncData} (G_common : FnOk P w K mg base CX0 1 f_common fd_common ["a", "b"] (spX K xc g_common)) (m_common : mg "common" = some (.ref f_common)) (k_common : PySem.W.keepIn K (.ref f_common) = true) (b_common : Binds K fd_common ["a", "b"] []) : FnOk P w K mg base CX0 2 f fd ["n", "d"] (spX K xc g_frac) :=
  def_ok D sc_frac (by decide) fun cdv A outer s H E H0 as0 O0 hr => by
    have nd := sc_frac.nd
    exact (ds_cons (ds_if (dt_lt2 hr.units rfl (de_var 1) de_int) (ds_one (ds_par 0 1 rfl nd (da_cons (de_neg (de_var 0)) (da_cons (de_neg (de_var 1)) da_nil)))) ds_nil)
    (ds_cons (ds_set 2 nd (de_call G_common (hr.mono (by decide)) m_common k_common b_common pass0 (da_cons (de_var 0) (da_cons (de_var 1) da_nil))))
    (ds_one (ds_ret (de_tup (da_cons (de_fdiv (de_var 0) (de_var 2)) (da_cons (de_fdiv (de_var 1) (de_var 2)) da_nil)))))))
theorem ok_is_frac {f : Addr} {fd : FuncData} (D : Fun K "is_frac" "is_frac" s_is_frac f fd) {f_common : Addr} {fd_common : FuncData} (G_common : FnOk P w K mg base CX0 1 f_common fd_common ["a", "b"] (spX K xc g_common)) (m_common : mg "common" = some (.ref f_common)) (k_common : PySem.W.keepIn K (.ref f_common) = true) (b_common : Binds K fd_common ["a", "b"] []) (mm_all : mg "all" = none) (mm_bool : mg "bool" = none) (mm_int : mg "int" = none) (mm_isinstance : mg "isinstance" = none) (mm_len : mg "len" = none) (mm_tuple : mg "tuple" = none) : FnOk P w K mg base CX0 2 f fd ["thing"] (spX K xc g_is_frac) :=
  def_ok D sc_is_frac (by decide) fun cdv A outer s H E H0 as0 O0 hr => by
    have nd := sc_is_frac.nd
    exact (ds_cons (ds_if (dt_bool (dw_or (dt_not (dt_val (de_isi "tuple" rfl mm_isinstance mm_tuple (by decide +kernel) (de_var 0)))) (dw_or1 (dt_ne hr.units rfl (de_len2 rfl mm_len (da_cons (de_var 0) da_nil)) de_int)))) (ds_one (ds_ret de_bl)) ds_nil)
    (ds_cons (ds_if (dt_not (dt_val (de_all rfl rfl mm_all (da_cons (de_lc (own := [("one", 1)]) rfl nd (blkOk_by (N := ["thing", "one"]) (sc := defScope s_is_frac) (by decide +kernel)) (di_seq rfl (de_var 0)) (fun _ _ _ _ _ => (dg_name 1 nd)) (fun _ _ _ _ _ => dts_nil) (fun _ _ _ _ _ => (de_and (de_isi "int" rfl mm_isinstance mm_int (by decide +kernel) (de_var 1)) (de_one (de_not (de_isi "bool" rfl mm_isinstance mm_bool (by decide +kernel) (de_var 1))))))) da_nil)))) (ds_one (ds_ret de_bl)) ds_nil)
    (ds_one (ds_ret (de_and (de_gt2 hr.units rfl (de_ix2 (room1 hr) rfl (de_var 0) de_int) de_int) (de_one (de_eq hr.units rfl (de_call G_common (hr.mono (by decide)) m_common k_common b_common pass0 (da_cons (de_ix2 (room1 hr) rfl (de_var 0) de_int) (da_cons (de_ix2 (room1 hr) rfl (de_var 0) de_int) da_nil))) de_int)))))))
theorem ok_sign_of {f : Addr} {fd : FuncData} (D : Fun K "sign_of" "sign_of" s_sign_of f fd) : FnOk P w K mg base CX0 1 f fd ["number"] (spX K xc g_sign_of) :=
  def_ok D sc_sign_of (by decide) fun cdv A outer s H E H0 as0 O0 hr => by
    have nd := sc_sign_of.nd
    exact (ds_one (ds_ret (de_if (dt_gt2 hr.units rfl (de_var 0) de_int) de_int (de_if (dt_eq hr.units rfl (de_var 0) de_int) de_int (de_neg de_int)))))
theorem ok_compare {f : Addr} {fd : FuncData} (D : Fun K "compare" "compare" s_compare f fd) {f_sign_of : Addr} {fd_sign_of : FuncData} (G_sign_of : FnOk P w K mg base CX0 1 f_sign_of fd_sign_of ["number"] (spX K xc g_sign_of)) (m_sign_of : mg "sign_of" = some (.ref f_sign_of)) (k_sign_of : PySem.W.keepIn K (.ref f_sign_of) = true) (b_sign_of : Binds K fd_sign_of ["number"] []) : FnOk P w K mg base CX0 2 f fd ["a", "b"] (spX K xc g_compare) :=
  def_ok D sc_compare (by decide) fun cdv A outer s H E H0 as0 O0 hr => by
    have nd := sc_compare.nd
    exact (ds_one (ds_ret (de_call G_sign_of (hr.mono (by decide)) m_sign_of k_sign_of b_sign_of pass0 (da_cons (de_sub (de_mul2 rfl (de_ix2 (room1 hr) rfl (de_var 0) de_int) (de_ix2 (room1 hr) rfl (de_var 1) de_int)) (de_mul2 rfl (de_ix2 (room1 hr) rfl (de_var 1) de_int) (de_ix2 (room1 hr) rfl (de_var 0) de_int))) da_nil))))
theorem ok_is_name {f : Addr} {fd : FuncData} (D : Fun K "is_name" "is_name" s_is_name f fd) (mm_all : mg "all" = none) (mm_isinstance : mg "isinstance" = none) (mm_len : mg "len" = none) (mm_str : mg "str" = none) (t_LETTERS : Top K mg "LETTERS" (.str "abcdefghijklmnopqrstuvwxyz0123456789")) (t_WORDS : Top K mg "WORDS" (.tuple [(.str "bus"), (.str "line"), (.str "source"), (.str "guard"), (.str "error"), (.str "breaker"), (.str "ticks"), (.str "over"), (.str "reach"), (.str "difference"), (.str "behind"), (.str "forward"), (.str "delay"), (.str "opens")])) : FnOk P w K mg base CX0 1 f fd ["thing"] (spX K xc g_is_name) :=
  def_ok D sc_is_name (by decide) fun cdv A outer s H E H0 as0 O0 hr => by
    have nd := sc_is_name.nd
    exact (ds_cons (ds_if (dt_bool (dw_or (dt_not (dt_val (de_isi "str" rfl mm_isinstance mm_str (by decide +kernel) (de_var 0)))) (dw_or (dt_not (dt_chain (cp_le) (cp_le) de_int (de_len2 rfl mm_len (da_cons (de_var 0) da_nil)) de_int)) (dw_or1 (dt_in2 hr rfl (de_var 0) (de_top t_WORDS)))))) (ds_one (ds_ret de_bl)) ds_nil)
    (ds_one (ds_ret (de_and (de_in2 hr rfl (de_ix2 (room1 hr) rfl (de_var 0) de_int) (de_slice rfl (de_top t_LETTERS) do_none (do_some de_int))) (de_one (de_all rfl rfl mm_all (da_cons (de_lc (own := [("sign", 1)]) rfl nd (blkOk_by (N := ["thing", "sign"]) (sc := defScope s_is_name) (by decide +kernel)) (di_seq rfl (de_var 0)) (fun _ _ _ _ _ => (dg_name 1 nd)) (fun _ _ _ _ _ => dts_nil) (fun _ _ _ _ _ => (de_in2 hr rfl (de_var 1) (de_top t_LETTERS)))) da_nil)))))))
theorem ok_is_whole {f : Addr} {fd : FuncData} (D : Fun K "is_whole" "is_whole" s_is_whole f fd) (mm_bool : mg "bool" = none) (mm_int : mg "int" = none) (mm_isinstance : mg "isinstance" = none) : FnOk P w K mg base CX0 1 f fd ["thing", "least", "most"] (spX K xc g_is_whole) :=
  def_ok D sc_is_whole (by decide) fun cdv A outer s H E H0 as0 O0 hr => by
    have nd := sc_is_whole.nd
    exact (ds_one (ds_ret (de_and (de_isi "int" rfl mm_isinstance mm_int (by decide +kernel) (de_var 0)) (de_and (de_not (de_isi "bool" rfl mm_isinstance mm_bool (by decide +kernel) (de_var 0))) (de_one (de_chain (cp_le) (cp_le) (de_var 1) (de_var 0) (de_var 2)))))))
theorem ok_breakers_of {f : Addr} {fd : FuncData} (D : Fun K "breakers_of" "breakers_of" s_breakers_of f fd) : FnOk P w K mg base CX0 1 f fd ["net"] (spX K xc g_breakers_of) :=
  def_ok D sc_breakers_of (by decide) fun cdv A outer s H E H0 as0 O0 hr => by
    have nd := sc_breakers_of.nd
    exact (ds_cons (ds_setLc2 1 (own := [("line", 2), ("end", 3)]) (vs1 := [3]) rfl nd (blkOk_by (N := ["net", "found", "line", "end", "source"]) (sc := defScope s_breakers_of) (by decide +kernel)) (sw_true rfl rfl rfl (by decide +kernel)) (di_seq rfl (de_ix2 (room1 hr) rfl (de_var 0) de_int)) (fun _ _ _ _ _ => (dg_name 2 nd)) (fun _ _ _ _ _ => dts_nil) (fun _ _ _ _ _ => (di_seq rfl (de_tup (da_cons de_int (da_cons de_int da_nil))))) (fun _ _ _ _ _ => (dg_name 3 nd)) (fun _ _ _ _ _ => dts_nil) (fun _ _ _ _ _ => (de_tup (da_cons (de_ix2 (room1 hr) rfl (de_var 2) de_int) (da_cons (de_var 3) da_nil)))))
    (ds_one (ds_ret (de_add rfl (de_var 1) (de_lc (own := [("source", 4)]) rfl nd (blkOk_by (N := ["net", "found", "line", "end", "source"]) (sc := defScope s_breakers_of) (by decide +kernel)) (di_seq rfl (de_ix2 (room1 hr) rfl (de_var 0) de_int)) (fun _ _ _ _ _ => (dg_name 4 nd)) (fun _ _ _ _ _ => dts_nil) (fun _ _ _ _ _ => (de_tup (da_cons (de_ix2 (room1 hr) rfl (de_var 4) de_int) (da_cons de_int da_nil)))))))))
theorem ok_is_above {f : Addr} {fd : FuncData} (D : Fun K "is_above" "is_above" s_is_above f fd) {f_is_frac : Addr} {fd_is_frac : FuncData} (G_is_frac : FnOk P w K mg base CX0 2 f_is_frac fd_is_frac ["thing"] (spX K xc g_is_frac)) (m_is_frac : mg "is_frac" = some (.ref f_is_frac)) (k_is_frac : PySem.W.keepIn K (.ref f_is_frac) = true) (b_is_frac : Binds K fd_is_frac ["thing"] []) (t_MOST_X : Top K mg "MOST_X" (.int 1000)) : FnOk P w K mg base CX0 3 f fd ["thing"] (spX K xc g_is_above) :=
  def_ok D sc_is_above (by decide) fun cdv A outer s H E H0 as0 O0 hr => by
    have nd := sc_is_above.nd
    exact (ds_one (ds_ret (de_and (de_call G_is_frac (hr.mono (by decide)) m_is_frac k_is_frac b_is_frac pass0 (da_cons (de_var 0) da_nil)) (de_and (de_gt2 hr.units rfl (de_ix2 (room1 hr) rfl (de_var 0) de_int) de_int) (de_and (de_le2 hr.units rfl (de_ix2 (room1 hr) rfl (de_var 0) de_int) (de_top t_MOST_X)) (de_one (de_le2 hr.units rfl (de_ix2 (room1 hr) rfl (de_var 0) de_int) (de_top t_MOST_X))))))))
theorem ok_is_told {f : Addr} {fd : FuncData} (D : Fun K "is_told" "is_told" s_is_told f fd) {f_is_above : Addr} {fd_is_above : FuncData} (G_is_above : FnOk P w K mg base CX0 3 f_is_above fd_is_above ["thing"] (spX K xc g_is_above)) (m_is_above : mg "is_above" = some (.ref f_is_above)) (k_is_above : PySem.W.keepIn K (.ref f_is_above) = true) (b_is_above : Binds K fd_is_above ["thing"] []) (mm_bool : mg "bool" = none) (mm_isinstance : mg "isinstance" = none) (mm_len : mg "len" = none) (mm_str : mg "str" = none) (mm_tuple : mg "tuple" = none) : FnOk P w K mg base CX0 4 f fd ["told", "breakers", "parts"] (spX K xc g_is_told) :=
  def_ok D sc_is_told (by decide) fun cdv A outer s H E H0 as0 O0 hr => by
    have nd := sc_is_told.nd
    exact (ds_cons (ds_if (dt_bool (dw_or (dt_not (dt_val (de_isi "tuple" rfl mm_isinstance mm_tuple (by decide +kernel) (de_var 0)))) (dw_or (dt_eq hr.units rfl (de_len2 rfl mm_len (da_cons (de_var 0) da_nil)) de_int) (dw_or1 (dt_not (dt_val (de_isi "str" rfl mm_isinstance mm_str (by decide +kernel) (de_ix2 (room1 hr) rfl (de_var 0) de_int)))))))) (ds_one (ds_ret de_bl)) ds_nil)
    (ds_cons (ds_set 3 nd (de_ix2 (room1 hr) rfl (de_var 0) de_int))
    (ds_cons (ds_if (dt_eq hr.units rfl (de_var 3) de_str) (ds_one (ds_ret (de_and (de_eq hr.units rfl (de_len2 rfl mm_len (da_cons (de_var 0) da_nil)) de_int) (de_and (de_in2 hr rfl (de_ix2 (room1 hr) rfl (de_var 0) de_int) (de_var 1)) (de_and (de_call G_is_above (hr.mono (by decide)) m_is_above k_is_above b_is_above pass0 (da_cons (de_ix2 (room1 hr) rfl (de_var 0) de_int) da_nil)) (de_one (de_isi "bool" rfl mm_isinstance mm_bool (by decide +kernel) (de_ix2 (room1 hr) rfl (de_var 0) de_int)))))))) ds_nil)
    (ds_cons (ds_if (dt_eq hr.units rfl (de_var 3) de_str) (ds_one (ds_ret (de_and (de_eq hr.units rfl (de_len2 rfl mm_len (da_cons (de_var 0) da_nil)) de_int) (de_and (de_in2 hr rfl (de_ix2 (room1 hr) rfl (de_var 0) de_int) (de_var 1)) (de_one (de_call G_is_above (hr.mono (by decide)) m_is_above k_is_above b_is_above pass0 (da_cons (de_ix2 (room1 hr) rfl (de_var 0) de_int) da_nil))))))) ds_nil)
    (ds_cons (ds_if (dt_eq hr.units rfl (de_var 3) de_str) (ds_one (ds_ret (de_and (de_eq hr.units rfl (de_len2 rfl mm_len (da_cons (de_var 0) da_nil)) de_int) (de_and (de_in2 hr rfl (de_ix2 (room1 hr) rfl (de_var 0) de_int) (de_var 2)) (de_one (de_call G_is_above (hr.mono (by decide)) m_is_above k_is_above b_is_above pass0 (da_cons (de_ix2 (room1 hr) rfl (de_var 0) de_int) da_nil))))))) ds_nil)
    (ds_one (ds_ret (de_and (de_eq hr.units rfl (de_var 3) de_str) (de_and (de_eq hr.units rfl (de_len2 rfl mm_len (da_cons (de_var 0) da_nil)) de_int) (de_one (de_in2 hr rfl (de_ix2 (room1 hr) rfl (de_var 0) de_int) (de_var 1))))))))))))
theorem ok_is_rules {f : Addr} {fd : FuncData} (D : Fun K "is_rules" "is_rules" s_is_rules f fd) {f_is_frac : Addr} {fd_is_frac : FuncData} (G_is_frac : FnOk P w K mg base CX0 2 f_is_frac fd_is_frac ["thing"] (spX K xc g_is_frac)) (m_is_frac : mg "is_frac" = some (.ref f_is_frac)) (k_is_frac : PySem.W.keepIn K (.ref f_is_frac) = true) (b_is_frac : Binds K fd_is_frac ["thing"] []) {f_compare : Addr} {fd_compare : FuncData} (G_compare : FnOk P w K mg base CX0 2 f_compare fd_compare ["a", "b"] (spX K xc g_compare)) (m_compare : mg "compare" = some (.ref f_compare)) (k_compare : PySem.W.keepIn K (.ref f_compare) = true) (b_compare : Binds K fd_compare ["a", "b"] []) {f_is_whole : Addr} {fd_is_whole : FuncData} (G_is_whole : FnOk P w K mg base CX0 1 f_is_whole fd_is_whole ["thing", "least", "most"] (spX K xc g_is_whole)) (m_is_whole : mg "is_whole" = some (.ref f_is_whole)) (k_is_whole : PySem.W.keepIn K (.ref f_is_whole) = true) (b_is_whole : Binds K fd_is_whole ["thing", "least", "most"] []) (mm_isinstance : mg "isinstance" = none) (mm_len : mg "len" = none) (mm_tuple : mg "tuple" = none) (t_MOST_AGE : Top K mg "MOST_AGE" (.int 6)) (t_MOST_TICKS : Top K mg "MOST_TICKS" (.int 40)) (t_MOST_X : Top K mg "MOST_X" (.int 1000)) : FnOk P w K mg base CX0 3 f fd ["rules"] (spX K xc g_is_rules) :=
  def_ok D sc_is_rules (by decide) fun cdv A outer s H E H0 as0 O0 hr => by
    have nd := sc_is_rules.nd
    exact (ds_cons (ds_if (dt_bool (dw_or (dt_not (dt_val (de_isi "tuple" rfl mm_isinstance mm_tuple (by decide +kernel) (de_var 0)))) (dw_or (dt_ne hr.units rfl (de_len2 rfl mm_len (da_cons (de_var 0) da_nil)) de_int) (dw_or1 (dt_not (dt_val (de_call G_is_frac (hr.mono (by decide)) m_is_frac k_is_frac b_is_frac pass0 (da_cons (de_ix2 (room1 hr) rfl (de_var 0) de_int) da_nil)))))))) (ds_one (ds_ret de_bl)) ds_nil)
    (ds_cons (ds_asg (de_var 0) (dg_tup rfl rfl (dgs_cons (dg_name 1 nd) (dgs_cons (dg_name 2 nd) (dgs_cons (dg_name 3 nd) (dgs_cons (dg_name 4 nd) dgs_nil))))))
    (ds_cons (ds_if (dt_bool (dw_or (dt_gt2 hr.units rfl (de_call G_compare (hr.mono (by decide)) m_compare k_compare b_compare pass0 (da_cons (de_tup (da_cons de_int (da_cons de_int da_nil))) (da_cons (de_var 1) da_nil))) de_int) (dw_or (dt_ge2 hr.units rfl (de_call G_compare (hr.mono (by decide)) m_compare k_compare b_compare pass0 (da_cons (de_var 1) (da_cons (de_tup (da_cons de_int (da_cons de_int da_nil))) da_nil))) de_int) (dw_or1 (dt_gt2 hr.units rfl (de_ix2 (room1 hr) rfl (de_var 1) de_int) (de_top t_MOST_X)))))) (ds_one (ds_ret de_bl)) ds_nil)
    (ds_one (ds_ret (de_and (de_call G_is_whole (hr.mono (by decide)) m_is_whole k_is_whole b_is_whole pass0 (da_cons (de_var 3) (da_cons de_int (da_cons (de_top t_MOST_AGE) da_nil)))) (de_and (de_call G_is_whole (hr.mono (by decide)) m_is_whole k_is_whole b_is_whole pass0 (da_cons (de_var 2) (da_cons de_int (da_cons (de_var 3) da_nil)))) (de_one (de_call G_is_whole (hr.mono (by decide)) m_is_whole k_is_whole b_is_whole pass0 (da_cons (de_var 4) (da_cons de_int (da_cons (de_top t_MOST_TICKS) da_nil))))))))))))
theorem ok_check {f : Addr} {fd : FuncData} (D : Fun K "check" "check" s_check f fd) {C_BadNet B_BadNet fI_BadNet : Addr} (T_BadNet : PySem.ExF.Tx_BadNet K C_BadNet B_BadNet fI_BadNet) (x_BadNet : xc.ex 3 = some (C_BadNet, (["name", "why"] : List Str))) (x_BadNet_g : mg "BadNet" = some (.ref C_BadNet)) : FnOk P w K mg base (L2.CX P w) 2 f fd ["is_right", "name", "why"] (spX K xc g_check) :=
  def_okX D sc_check (by decide) fun cdv A outer s H E H0 as0 O0 hr => by
    have nd := sc_check.nd
    exact (ds_one (ds_if (dt_not (dt_val (de_var 0))) (ds_one (ds_raise 3 rfl (takes_of rfl rfl rfl rfl) x_BadNet rfl (pmk_BadNet T_BadNet x_BadNet_g hr (da_cons (de_var 1) (da_cons (de_var 2) da_nil))))) ds_nil))
theorem ok_check_lists {f : Addr} {fd : FuncData} (D : Fun K "check_lists" "check_lists" s_check_lists f fd) {f_check : Addr} {fd_check : FuncData} (G_check : FnOk P w K mg base (L2.CX P w) 2 f_check fd_check ["is_right", "name", "why"] (spX K xc g_check)) (m_check : mg "check" = some (.ref f_check)) (k_check : PySem.W.keepIn K (.ref f_check) = true) (b_check : Binds K fd_check ["is_right", "name", "why"] []) {f_is_name : Addr} {fd_is_name : FuncData} (G_is_name : FnOk P w K mg base CX0 1 f_is_name fd_is_name ["thing"] (spX K xc g_is_name)) (m_is_name : mg "is_name" = some (.ref f_is_name)) (k_is_name : PySem.W.keepIn K (.ref f_is_name) = true) (b_is_name : Binds K fd_is_name ["thing"] []) {f_is_whole : Addr} {fd_is_whole : FuncData} (G_is_whole : FnOk P w K mg base CX0 1 f_is_whole fd_is_whole ["thing", "least", "most"] (spX K xc g_is_whole)) (m_is_whole : mg "is_whole" = some (.ref f_is_whole)) (k_is_whole : PySem.W.keepIn K (.ref f_is_whole) = true) (b_is_whole : Binds K fd_is_whole ["thing", "least", "most"] []) (mm_all : mg "all" = none) (mm_isinstance : mg "isinstance" = none) (mm_len : mg "len" = none) (mm_tuple : mg "tuple" = none) (t_MOST_BUSES : Top K mg "MOST_BUSES" (.int 6)) (t_MOST_GUARDS : Top K mg "MOST_GUARDS" (.int 16)) (t_MOST_LINES : Top K mg "MOST_LINES" (.int 8)) (t_MOST_SOURCES : Top K mg "MOST_SOURCES" (.int 3)) (t_MOST_X : Top K mg "MOST_X" (.int 1000)) : FnOk P w K mg base (L2.CX P w) 3 f fd ["net"] (spX K xc g_check_lists) :=
  def_okX D sc_check_lists (by decide) fun cdv A outer s H E H0 as0 O0 hr => by
    have nd := sc_check_lists.nd
    exact (ds_cons (ds_expr (de_callR G_check (hr.mono (by decide)) m_check k_check b_check (takes_of rfl rfl rfl rfl) (da_cons (de_and (de_isi "tuple" rfl mm_isinstance mm_tuple (by decide +kernel) (de_var 0)) (de_one (de_eq hr.units rfl (de_len2 rfl mm_len (da_cons (de_var 0) da_nil)) de_int))) (da_cons de_non (da_cons de_str da_nil)))))
    (ds_cons (ds_expr (de_callR G_check (hr.mono (by decide)) m_check k_check b_check (takes_of rfl rfl rfl rfl) (da_cons (de_all rfl rfl mm_all (da_cons (de_lc (own := [("one", 10)]) rfl nd (blkOk_by (N := ["net", "buses", "lines", "sources", "guards", "rules", "names", "thing", "line", "source", "one", "bus"]) (sc := defScope s_check_lists) (by decide +kernel)) (di_seq rfl (de_var 0)) (fun _ _ _ _ _ => (dg_name 10 nd)) (fun _ _ _ _ _ => dts_nil) (fun _ _ _ _ _ => (de_isi "tuple" rfl mm_isinstance mm_tuple (by decide +kernel) (de_var 10)))) da_nil)) (da_cons de_non (da_cons de_str da_nil)))))
    (ds_cons (ds_asg (de_var 0) (dg_tup rfl rfl (dgs_cons (dg_name 1 nd) (dgs_cons (dg_name 2 nd) (dgs_cons (dg_name 3 nd) (dgs_cons (dg_name 4 nd) (dgs_cons (dg_name 5 nd) dgs_nil)))))))
    (ds_cons (ds_expr (de_callR G_check (hr.mono (by decide)) m_check k_check b_check (takes_of rfl rfl rfl rfl) (da_cons (de_and (de_chain (cp_le) (cp_le) de_int (de_len2 rfl mm_len (da_cons (de_var 1) da_nil)) (de_top t_MOST_BUSES)) (de_one (de_le2 hr.units rfl (de_len2 rfl mm_len (da_cons (de_var 2) da_nil)) (de_top t_MOST_LINES)))) (da_cons de_non (da_cons de_str da_nil)))))
    (ds_cons (ds_expr (de_callR G_check (hr.mono (by decide)) m_check k_check b_check (takes_of rfl rfl rfl rfl) (da_cons (de_and (de_chain (cp_le) (cp_le) de_int (de_len2 rfl mm_len (da_cons (de_var 3) da_nil)) (de_top t_MOST_SOURCES)) (de_one (de_le2 hr.units rfl (de_len2 rfl mm_len (da_cons (de_var 4) da_nil)) (de_top t_MOST_GUARDS)))) (da_cons de_non (da_cons de_str da_nil)))))
    (ds_cons (ds_dict 6 nd)
    (ds_cons (ds_for (passes_of rfl) rfl (di_seq rfl (de_lst (da_star rfl (de_lc (own := [("bus", 11)]) rfl nd (blkOk_by (N := ["net", "buses", "lines", "sources", "guards", "rules", "names", "thing", "line", "source", "one", "bus"]) (sc := defScope s_check_lists) (by decide +kernel)) (di_seq rfl (de_var 1)) (fun _ _ _ _ _ => (dg_name 11 nd)) (fun _ _ _ _ _ => dts_nil) (fun _ _ _ _ _ => (de_tup (da_cons (de_var 11) da_nil)))) (da_star rfl (de_var 2) (da_star rfl (de_var 3) (da_star rfl (de_var 4) da_nil)))))) (dg_name 7 nd) (ds_cons (ds_expr (de_callR G_check (hr.mono (by decide)) m_check k_check b_check (takes_of rfl rfl rfl rfl) (da_cons (de_and (de_isi "tuple" rfl mm_isinstance mm_tuple (by decide +kernel) (de_var 7)) (de_and (de_gt2 hr.units rfl (de_len2 rfl mm_len (da_cons (de_var 7) da_nil)) de_int) (de_one (de_call G_is_name (hr.mono (by decide)) m_is_name k_is_name b_is_name pass0 (da_cons (de_ix2 (room1 hr) rfl (de_var 7) de_int) da_nil))))) (da_cons de_non (da_cons de_str da_nil)))))
    (ds_cons (ds_expr (de_callR G_check (hr.mono (by decide)) m_check k_check b_check (takes_of rfl rfl rfl rfl) (da_cons (de_hasNot 6 (room1 hr) (de_ix2 (room1 hr) rfl (de_var 7) de_int)) (da_cons (de_ix2 (room1 hr) rfl (de_var 7) de_int) (da_cons de_str da_nil)))))
    (ds_one (ds_putOwn 6 (room1 hr) de_bl (de_ix2 (room1 hr) rfl (de_var 7) de_int))))))
    (ds_cons (ds_for (passes_of rfl) rfl (di_seq rfl (de_var 2)) (dg_name 8 nd) (ds_cons (ds_expr (de_callR G_check (hr.mono (by decide)) m_check k_check b_check (takes_of rfl rfl rfl rfl) (da_cons (de_and (de_eq hr.units rfl (de_len2 rfl mm_len (da_cons (de_var 8) da_nil)) de_int) (de_and (de_in2 hr rfl (de_ix2 (room1 hr) rfl (de_var 8) de_int) (de_var 1)) (de_and (de_in2 hr rfl (de_ix2 (room1 hr) rfl (de_var 8) de_int) (de_var 1)) (de_one (de_ne hr.units rfl (de_ix2 (room1 hr) rfl (de_var 8) de_int) (de_ix2 (room1 hr) rfl (de_var 8) de_int)))))) (da_cons (de_ix2 (room1 hr) rfl (de_var 8) de_int) (da_cons de_str da_nil)))))
    (ds_one (ds_expr (de_callR G_check (hr.mono (by decide)) m_check k_check b_check (takes_of rfl rfl rfl rfl) (da_cons (de_call G_is_whole (hr.mono (by decide)) m_is_whole k_is_whole b_is_whole pass0 (da_cons (de_ix2 (room1 hr) rfl (de_var 8) de_int) (da_cons de_int (da_cons (de_top t_MOST_X) da_nil)))) (da_cons (de_ix2 (room1 hr) rfl (de_var 8) de_int) (da_cons de_str da_nil))))))))
    (ds_one (ds_for (passes_of rfl) rfl (di_seq rfl (de_var 3)) (dg_name 9 nd) (ds_cons (ds_expr (de_callR G_check (hr.mono (by decide)) m_check k_check b_check (takes_of rfl rfl rfl rfl) (da_cons (de_and (de_eq hr.units rfl (de_len2 rfl mm_len (da_cons (de_var 9) da_nil)) de_int) (de_one (de_in2 hr rfl (de_ix2 (room1 hr) rfl (de_var 9) de_int) (de_var 1)))) (da_cons (de_ix2 (room1 hr) rfl (de_var 9) de_int) (da_cons de_str da_nil)))))
    (ds_one (ds_expr (de_callR G_check (hr.mono (by decide)) m_check k_check b_check (takes_of rfl rfl rfl rfl) (da_cons (de_call G_is_whole (hr.mono (by decide)) m_is_whole k_is_whole b_is_whole pass0 (da_cons (de_ix2 (room1 hr) rfl (de_var 9) de_int) (da_cons de_int (da_cons (de_top t_MOST_X) da_nil)))) (da_cons (de_ix2 (room1 hr) rfl (de_var 9) de_int) (da_cons de_str da_nil)))))))))))))))))
theorem ok_check_net {f : Addr} {fd : FuncData} (D : Fun K "check_net" "check_net" s_check_net f fd) {f_check_lists : Addr} {fd_check_lists : FuncData} (G_check_lists : FnOk P w K mg base (L2.CX P w) 3 f_check_lists fd_check_lists ["net"] (spX K xc g_check_lists)) (m_check_lists : mg "check_lists" = some (.ref f_check_lists)) (k_check_lists : PySem.W.keepIn K (.ref f_check_lists) = true) (b_check_lists : Binds K fd_check_lists ["net"] []) {f_breakers_of : Addr} {fd_breakers_of : FuncData} (G_breakers_of : FnOk P w K mg base CX0 1 f_breakers_of fd_breakers_of ["net"] (spX K xc g_breakers_of)) (m_breakers_of : mg "breakers_of" = some (.ref f_breakers_of)) (k_breakers_of : PySem.W.keepIn K (.ref f_breakers_of) = true) (b_breakers_of : Binds K fd_breakers_of ["net"] []) {f_is_told : Addr} {fd_is_told : FuncData} (G_is_told : FnOk P w K mg base CX0 4 f_is_told fd_is_told ["told", "breakers", "parts"] (spX K xc g_is_told)) (m_is_told : mg "is_told" = some (.ref f_is_told)) (k_is_told : PySem.W.keepIn K (.ref f_is_told) = true) (b_is_told : Binds K fd_is_told ["told", "breakers", "parts"] []) {f_check : Addr} {fd_check : FuncData} (G_check : FnOk P w K mg base (L2.CX P w) 2 f_check fd_check ["is_right", "name", "why"] (spX K xc g_check)) (m_check : mg "check" = some (.ref f_check)) (k_check : PySem.W.keepIn K (.ref f_check) = true) (b_check : Binds K fd_check ["is_right", "name", "why"] []) {f_is_whole : Addr} {fd_is_whole : FuncData} (G_is_whole : FnOk P w K mg base CX0 1 f_is_whole fd_is_whole ["thing", "least", "most"] (spX K xc g_is_whole)) (m_is_whole : mg "is_whole" = some (.ref f_is_whole)) (k_is_whole : PySem.W.keepIn K (.ref f_is_whole) = true) (b_is_whole : Binds K fd_is_whole ["thing", "least", "most"] []) {f_is_rules : Addr} {fd_is_rules : FuncData} (G_is_rules : FnOk P w K mg base CX0 3 f_is_rules fd_is_rules ["rules"] (spX K xc g_is_rules)) (m_is_rules : mg "is_rules" = some (.ref f_is_rules)) (k_is_rules : PySem.W.keepIn K (.ref f_is_rules) = true) (b_is_rules : Binds K fd_is_rules ["rules"] []) (mm_all : mg "all" = none) (mm_isinstance : mg "isinstance" = none) (mm_len : mg "len" = none) (mm_tuple : mg "tuple" = none) (mm_zip : mg "zip" = none) (t_MOST_DELAY : Top K mg "MOST_DELAY" (.int 20)) : FnOk P w K mg base (L2.CX P w) 5 f fd ["net"] (spX K xc g_check_net) :=
  def_okX D sc_check_net (by decide) fun cdv A outer s H E H0 as0 O0 hr => by
    have nd := sc_check_net.nd
    exact (ds_cons (ds_expr (de_callR G_check_lists (hr.mono (by decide)) m_check_lists k_check_lists b_check_lists (takes_of rfl rfl rfl rfl) (da_cons (de_var 0) da_nil)))
    (ds_cons (ds_asg (de_var 0) (dg_tup rfl rfl (dgs_cons (dg_name 1 nd) (dgs_cons (dg_name 2 nd) (dgs_cons (dg_name 3 nd) (dgs_cons (dg_name 4 nd) (dgs_cons (dg_name 5 nd) dgs_nil)))))))
    (ds_cons (ds_asg (de_tup (da_cons (de_call G_breakers_of (hr.mono (by decide)) m_breakers_of k_breakers_of b_breakers_of pass0 (da_cons (de_var 0) da_nil)) (da_cons (de_lst (da_star rfl (de_var 1) (da_star rfl (de_lc (own := [("line", 10)]) rfl nd (blkOk_by (N := ["net", "buses", "lines", "sources", "guards", "rules", "breakers", "parts", "guard", "opens", "line", "one", "other"]) (sc := defScope s_check_net) (by decide +kernel)) (di_seq rfl (de_var 2)) (fun _ _ _ _ _ => (dg_name 10 nd)) (fun _ _ _ _ _ => dts_nil) (fun _ _ _ _ _ => (de_ix2 (room1 hr) rfl (de_var 10) de_int))) da_nil))) da_nil))) (dg_tup rfl rfl (dgs_cons (dg_name 6 nd) (dgs_cons (dg_name 7 nd) dgs_nil))))
    (ds_cons (ds_for (passes_of rfl) rfl (di_seq rfl (de_var 4)) (dg_name 8 nd) (ds_cons (ds_expr (de_callR G_check (hr.mono (by decide)) m_check k_check b_check (takes_of rfl rfl rfl rfl) (da_cons (de_and (de_eq hr.units rfl (de_len2 rfl mm_len (da_cons (de_var 8) da_nil)) de_int) (de_one (de_call G_is_told (hr.mono (by decide)) m_is_told k_is_told b_is_told pass0 (da_cons (de_ix2 (room1 hr) rfl (de_var 8) de_int) (da_cons (de_var 6) (da_cons (de_var 7) da_nil)))))) (da_cons (de_ix2 (room1 hr) rfl (de_var 8) de_int) (da_cons de_str da_nil)))))
    (ds_cons (ds_expr (de_callR G_check (hr.mono (by decide)) m_check k_check b_check (takes_of rfl rfl rfl rfl) (da_cons (de_call G_is_whole (hr.mono (by decide)) m_is_whole k_is_whole b_is_whole pass0 (da_cons (de_ix2 (room1 hr) rfl (de_var 8) de_int) (da_cons de_int (da_cons (de_top t_MOST_DELAY) da_nil)))) (da_cons (de_ix2 (room1 hr) rfl (de_var 8) de_int) (da_cons de_str da_nil)))))
    (ds_cons (ds_set 9 nd (de_ix2 (room1 hr) rfl (de_var 8) de_int))
    (ds_cons (ds_expr (de_callR G_check (hr.mono (by decide)) m_check k_check b_check (takes_of rfl rfl rfl rfl) (da_cons (de_and (de_isi "tuple" rfl mm_isinstance mm_tuple (by decide +kernel) (de_var 9)) (de_one (de_gt2 hr.units rfl (de_len2 rfl mm_len (da_cons (de_var 9) da_nil)) de_int))) (da_cons (de_ix2 (room1 hr) rfl (de_var 8) de_int) (da_cons de_str da_nil)))))
    (ds_cons (ds_expr (de_callR G_check (hr.mono (by decide)) m_check k_check b_check (takes_of rfl rfl rfl rfl) (da_cons (de_all rfl rfl mm_all (da_cons (de_lc (own := [("one", 11)]) rfl nd (blkOk_by (N := ["net", "buses", "lines", "sources", "guards", "rules", "breakers", "parts", "guard", "opens", "line", "one", "other"]) (sc := defScope s_check_net) (by decide +kernel)) (di_seq rfl (de_var 9)) (fun _ _ _ _ _ => (dg_name 11 nd)) (fun _ _ _ _ _ => dts_nil) (fun _ _ _ _ _ => (de_in2 hr rfl (de_var 11) (de_var 6)))) da_nil)) (da_cons (de_ix2 (room1 hr) rfl (de_var 8) de_int) (da_cons de_str da_nil)))))
    (ds_one (ds_expr (de_callR G_check (hr.mono (by decide)) m_check k_check b_check (takes_of rfl rfl rfl rfl) (da_cons (de_all rfl rfl mm_all (da_cons (de_lc (own := [("one", 11), ("other", 12)]) rfl nd (blkOk_by (N := ["net", "buses", "lines", "sources", "guards", "rules", "breakers", "parts", "guard", "opens", "line", "one", "other"]) (sc := defScope s_check_net) (by decide +kernel)) (di_zip rfl mm_zip (da_cons (de_var 9) (da_cons (de_slice rfl (de_var 9) (do_some de_int) do_none) da_nil))) (fun _ _ _ _ _ => (dg_tup rfl rfl (dgs_cons (dg_name 11 nd) (dgs_cons (dg_name 12 nd) dgs_nil)))) (fun _ _ _ _ _ => dts_nil) (fun _ _ _ _ _ => (de_lt2 hr.units rfl (de_var 11) (de_var 12)))) da_nil)) (da_cons (de_ix2 (room1 hr) rfl (de_var 8) de_int) (da_cons de_str da_nil))))))))))))
    (ds_one (ds_expr (de_callR G_check (hr.mono (by decide)) m_check k_check b_check (takes_of rfl rfl rfl rfl) (da_cons (de_call G_is_rules (hr.mono (by decide)) m_is_rules k_is_rules b_is_rules pass0 (da_cons (de_var 5) da_nil)) (da_cons de_non (da_cons de_str da_nil))))))))))
theorem ok_LineReader_skip {f : Addr} {fd : FuncData} (D : Fun K "skip" "LineReader.skip" s_LineReader_skip f fd) {C_LineReader : Addr} (O_LineReader : ObK K xc 1 C_LineReader ["line", "number", "here"]) (mm_len : mg "len" = none) : FnOk P w K mg base CX0 1 f fd ["self"] (spX K xc g_LineReader_skip) :=
  def_ok D sc_LineReader_skip (by decide) fun cdv A outer s H E H0 as0 O0 hr => by
    have nd := sc_LineReader_skip.nd
    exact (ds_one (ds_while PassesOwn.never (dt_bool (dw_and (dt_lt2 hr.units rfl (de_fld 1 2 rfl O_LineReader rfl (de_var 0)) (de_len2 rfl mm_len (da_cons (de_fld 1 0 rfl O_LineReader rfl (de_var 0)) da_nil))) (dw_and1 (dt_eq hr.units rfl (de_ix2 (room1 hr) rfl (de_fld 1 0 rfl O_LineReader rfl (de_var 0)) (de_fld 1 2 rfl O_LineReader rfl (de_var 0))) de_str)))) (ds_one (ds_fldAdd 1 2 rfl O_LineReader rfl (de_var 0) de_int))))
theorem ok_LineReader_end_of {f : Addr} {fd : FuncData} (D : Fun K "end_of" "LineReader.end_of" s_LineReader_end_of f fd) {C_LineReader : Addr} (O_LineReader : ObK K xc 1 C_LineReader ["line", "number", "here"]) (mm_len : mg "len" = none) : FnOk P w K mg base CX0 1 f fd ["self", "signs"] (spX K xc g_LineReader_end_of) :=
  def_ok D sc_LineReader_end_of (by decide) fun cdv A outer s H E H0 as0 O0 hr => by
    have nd := sc_LineReader_end_of.nd
    exact (ds_cons (ds_set 2 nd (de_fld 1 2 rfl O_LineReader rfl (de_var 0)))
    (ds_cons (ds_while PassesOwn.never (dt_bool (dw_and (dt_lt2 hr.units rfl (de_var 2) (de_len2 rfl mm_len (da_cons (de_fld 1 0 rfl O_LineReader rfl (de_var 0)) da_nil))) (dw_and1 (dt_in2 hr rfl (de_ix2 (room1 hr) rfl (de_fld 1 0 rfl O_LineReader rfl (de_var 0)) (de_var 2)) (de_var 1))))) (ds_one (ds_augAdd2 2 nd de_int)))
    (ds_one (ds_ret (de_var 2)))))
theorem ok_LineReader_word {f : Addr} {fd : FuncData} (D : Fun K "word" "LineReader.word" s_LineReader_word f fd) {C_LineReader : Addr} (O_LineReader : ObK K xc 1 C_LineReader ["line", "number", "here"]) {f_LineReader_skip : Addr} {fd_LineReader_skip : FuncData} (G_LineReader_skip : FnOk P w K mg base CX0 1 f_LineReader_skip fd_LineReader_skip ["self"] (spX K xc g_LineReader_skip)) (mt_LineReader_skip : Meth K C_LineReader "skip" f_LineReader_skip) (b_LineReader_skip : Binds K fd_LineReader_skip ["self"] []) {f_LineReader_end_of : Addr} {fd_LineReader_end_of : FuncData} (G_LineReader_end_of : FnOk P w K mg base CX0 1 f_LineReader_end_of fd_LineReader_end_of ["self", "signs"] (spX K xc g_LineReader_end_of)) (mt_LineReader_end_of : Meth K C_LineReader "end_of" f_LineReader_end_of) (b_LineReader_end_of : Binds K fd_LineReader_end_of ["self", "signs"] []) (t_LETTERS : Top K mg "LETTERS" (.str "abcdefghijklmnopqrstuvwxyz0123456789")) : FnOk P w K mg base CX0 2 f fd ["self"] (spX K xc g_LineReader_word) :=
  def_ok D sc_LineReader_word (by decide) fun cdv A outer s H E H0 as0 O0 hr => by
    have nd := sc_LineReader_word.nd
    exact (ds_cons (ds_expr (de_meth0 1 O_LineReader (by decide) mt_LineReader_skip G_LineReader_skip (hr.mono (by decide)) b_LineReader_skip (fun σ => passAt0 σ) (de_var 0)))
    (ds_one (ds_ret (de_slice rfl (de_fld 1 0 rfl O_LineReader rfl (de_var 0)) (do_some (de_fld 1 2 rfl O_LineReader rfl (de_var 0))) (do_some (de_meth 1 O_LineReader (by decide) mt_LineReader_end_of G_LineReader_end_of (hr.mono (by decide)) b_LineReader_end_of (fun σ => passAt0 σ) (de_var 0) (da_cons (de_top t_LETTERS) da_nil)))))))
theorem ok_LineReader_wrong {f : Addr} {fd : FuncData} (D : Fun K "wrong" "LineReader.wrong" s_LineReader_wrong f fd) {C_LineReader : Addr} (O_LineReader : ObK K xc 1 C_LineReader ["line", "number", "here"]) {C_BadText B_BadText fI_BadText : Addr} (T_BadText : PySem.ExF.Tx_BadText K C_BadText B_BadText fI_BadText) (x_BadText : xc.ex 2 = some (C_BadText, (["line", "column"] : List Str))) (x_BadText_g : mg "BadText" = some (.ref C_BadText)) : FnOk P w K mg base (L2.CX P w) 2 f fd ["self"] (spX K xc g_LineReader_wrong) :=
  def_okX D sc_LineReader_wrong (by decide) fun cdv A outer s H E H0 as0 O0 hr => by
    have nd := sc_LineReader_wrong.nd
    exact (ds_one (ds_raise 2 rfl (takes_of rfl rfl rfl rfl) x_BadText rfl (pmk_BadText T_BadText x_BadText_g hr (da_cons (de_fld 1 1 rfl O_LineReader rfl (de_var 0)) (da_cons (de_add rfl (de_fld 1 2 rfl O_LineReader rfl (de_var 0)) de_int) da_nil)))))
theorem ok_LineReader_name_next {f : Addr} {fd : FuncData} (D : Fun K "name_next" "LineReader.name_next" s_LineReader_name_next f fd) {C_LineReader : Addr} (O_LineReader : ObK K xc 1 C_LineReader ["line", "number", "here"]) {f_LineReader_word : Addr} {fd_LineReader_word : FuncData} (G_LineReader_word : FnOk P w K mg base CX0 2 f_LineReader_word fd_LineReader_word ["self"] (spX K xc g_LineReader_word)) (mt_LineReader_word : Meth K C_LineReader "word" f_LineReader_word) (b_LineReader_word : Binds K fd_LineReader_word ["self"] []) {f_LineReader_wrong : Addr} {fd_LineReader_wrong : FuncData} (G_LineReader_wrong : FnOk P w K mg base (L2.CX P w) 2 f_LineReader_wrong fd_LineReader_wrong ["self"] (spX K xc g_LineReader_wrong)) (mt_LineReader_wrong : Meth K C_LineReader "wrong" f_LineReader_wrong) (b_LineReader_wrong : Binds K fd_LineReader_wrong ["self"] []) (mm_len : mg "len" = none) (t_FIGURES : Top K mg "FIGURES" (.str "0123456789")) (t_WORDS : Top K mg "WORDS" (.tuple [(.str "bus"), (.str "line"), (.str "source"), (.str "guard"), (.str "error"), (.str "breaker"), (.str "ticks"), (.str "over"), (.str "reach"), (.str "difference"), (.str "behind"), (.str "forward"), (.str "delay"), (.str "opens")])) : FnOk P w K mg base (L2.CX P w) 3 f fd ["self"] (spX K xc g_LineReader_name_next) :=
  def_okX D sc_LineReader_name_next (by decide) fun cdv A outer s H E H0 as0 O0 hr => by
    have nd := sc_LineReader_name_next.nd
    exact (ds_cons (ds_set 1 nd (de_meth0 1 O_LineReader (by decide) mt_LineReader_word G_LineReader_word (hr.mono (by decide)) b_LineReader_word (fun σ => passAt0 σ) (de_var 0)))
    (ds_cons (ds_if (dt_bool (dw_or (dt_not (dt_chain (cp_le) (cp_le) de_int (de_len2 rfl mm_len (da_cons (de_var 1) da_nil)) de_int)) (dw_or (dt_in2 hr rfl (de_var 1) (de_top t_WORDS)) (dw_or1 (dt_in2 hr rfl (de_ix2 (room1 hr) rfl (de_var 1) de_int) (de_top t_FIGURES)))))) (ds_one (ds_expr (de_methR0 1 O_LineReader (by decide) mt_LineReader_wrong G_LineReader_wrong (hr.mono (by decide)) b_LineReader_wrong (takes_of rfl rfl rfl rfl) (de_var 0)))) ds_nil)
    (ds_cons (ds_fldAdd 1 2 rfl O_LineReader rfl (de_var 0) (de_len2 rfl mm_len (da_cons (de_var 1) da_nil)))
    (ds_one (ds_ret (de_var 1))))))
theorem ok_LineReader_taken {f : Addr} {fd : FuncData} (D : Fun K "taken" "LineReader.taken" s_LineReader_taken f fd) {C_LineReader : Addr} (O_LineReader : ObK K xc 1 C_LineReader ["line", "number", "here"]) {f_LineReader_word : Addr} {fd_LineReader_word : FuncData} (G_LineReader_word : FnOk P w K mg base CX0 2 f_LineReader_word fd_LineReader_word ["self"] (spX K xc g_LineReader_word)) (mt_LineReader_word : Meth K C_LineReader "word" f_LineReader_word) (b_LineReader_word : Binds K fd_LineReader_word ["self"] []) (mm_len : mg "len" = none) : FnOk P w K mg base CX0 3 f fd ["self", "word"] (spX K xc g_LineReader_taken) :=
  def_ok D sc_LineReader_taken (by decide) fun cdv A outer s H E H0 as0 O0 hr => by
    have nd := sc_LineReader_taken.nd
    exact (ds_cons (ds_if (dt_eq hr.units rfl (de_meth0 1 O_LineReader (by decide) mt_LineReader_word G_LineReader_word (hr.mono (by decide)) b_LineReader_word (fun σ => passAt0 σ) (de_var 0)) (de_var 1)) (ds_cons (ds_fldAdd 1 2 rfl O_LineReader rfl (de_var 0) (de_len2 rfl mm_len (da_cons (de_var 1) da_nil)))
    (ds_one (ds_ret de_bl))) ds_nil)
    (ds_one (ds_ret de_bl)))
theorem ok_LineReader_want {f : Addr} {fd : FuncData} (D : Fun K "want" "LineReader.want" s_LineReader_want f fd) {C_LineReader : Addr} (O_LineReader : ObK K xc 1 C_LineReader ["line", "number", "here"]) {f_LineReader_taken : Addr} {fd_LineReader_taken : FuncData} (G_LineReader_taken : FnOk P w K mg base CX0 3 f_LineReader_taken fd_LineReader_taken ["self", "word"] (spX K xc g_LineReader_taken)) (mt_LineReader_taken : Meth K C_LineReader "taken" f_LineReader_taken) (b_LineReader_taken : Binds K fd_LineReader_taken ["self", "word"] []) {f_LineReader_wrong : Addr} {fd_LineReader_wrong : FuncData} (G_LineReader_wrong : FnOk P w K mg base (L2.CX P w) 2 f_LineReader_wrong fd_LineReader_wrong ["self"] (spX K xc g_LineReader_wrong)) (mt_LineReader_wrong : Meth K C_LineReader "wrong" f_LineReader_wrong) (b_LineReader_wrong : Binds K fd_LineReader_wrong ["self"] []) : FnOk P w K mg base (L2.CX P w) 4 f fd ["self", "word"] (spX K xc g_LineReader_want) :=
  def_okX D sc_LineReader_want (by decide) fun cdv A outer s H E H0 as0 O0 hr => by
    have nd := sc_LineReader_want.nd
    exact (ds_one (ds_if (dt_not (dt_val (de_meth 1 O_LineReader (by decide) mt_LineReader_taken G_LineReader_taken (hr.mono (by decide)) b_LineReader_taken (fun σ => passAt0 σ) (de_var 0) (da_cons (de_var 1) da_nil)))) (ds_one (ds_expr (de_methR0 1 O_LineReader (by decide) mt_LineReader_wrong G_LineReader_wrong (hr.mono (by decide)) b_LineReader_wrong (takes_of rfl rfl rfl rfl) (de_var 0)))) ds_nil))
theorem ok_LineReader_apart {f : Addr} {fd : FuncData} (D : Fun K "apart" "LineReader.apart" s_LineReader_apart f fd) {C_LineReader : Addr} (O_LineReader : ObK K xc 1 C_LineReader ["line", "number", "here"]) {f_LineReader_wrong : Addr} {fd_LineReader_wrong : FuncData} (G_LineReader_wrong : FnOk P w K mg base (L2.CX P w) 2 f_LineReader_wrong fd_LineReader_wrong ["self"] (spX K xc g_LineReader_wrong)) (mt_LineReader_wrong : Meth K C_LineReader "wrong" f_LineReader_wrong) (b_LineReader_wrong : Binds K fd_LineReader_wrong ["self"] []) : FnOk P w K mg base (L2.CX P w) 3 f fd ["self", "found"] (spX K xc g_LineReader_apart) :=
  def_okX D sc_LineReader_apart (by decide) fun cdv A outer s H E H0 as0 O0 hr => by
    have nd := sc_LineReader_apart.nd
    exact (ds_cons (ds_if (dt_notIn2 hr rfl (de_slice rfl (de_fld 1 0 rfl O_LineReader rfl (de_var 0)) (do_some (de_fld 1 2 rfl O_LineReader rfl (de_var 0))) (do_some (de_add rfl (de_fld 1 2 rfl O_LineReader rfl (de_var 0)) de_int))) (de_tup (da_cons de_str (da_cons de_str (da_cons de_str da_nil))))) (ds_one (ds_expr (de_methR0 1 O_LineReader (by decide) mt_LineReader_wrong G_LineReader_wrong (hr.mono (by decide)) b_LineReader_wrong (takes_of rfl rfl rfl rfl) (de_var 0)))) ds_nil)
    (ds_one (ds_ret (de_var 1))))
theorem ok_LineReader_breaker {f : Addr} {fd : FuncData} (D : Fun K "breaker" "LineReader.breaker" s_LineReader_breaker f fd) {C_LineReader : Addr} (O_LineReader : ObK K xc 1 C_LineReader ["line", "number", "here"]) {f_LineReader_name_next : Addr} {fd_LineReader_name_next : FuncData} (G_LineReader_name_next : FnOk P w K mg base (L2.CX P w) 3 f_LineReader_name_next fd_LineReader_name_next ["self"] (spX K xc g_LineReader_name_next)) (mt_LineReader_name_next : Meth K C_LineReader "name_next" f_LineReader_name_next) (b_LineReader_name_next : Binds K fd_LineReader_name_next ["self"] []) {f_LineReader_wrong : Addr} {fd_LineReader_wrong : FuncData} (G_LineReader_wrong : FnOk P w K mg base (L2.CX P w) 2 f_LineReader_wrong fd_LineReader_wrong ["self"] (spX K xc g_LineReader_wrong)) (mt_LineReader_wrong : Meth K C_LineReader "wrong" f_LineReader_wrong) (b_LineReader_wrong : Binds K fd_LineReader_wrong ["self"] []) {f_LineReader_apart : Addr} {fd_LineReader_apart : FuncData} (G_LineReader_apart : FnOk P w K mg base (L2.CX P w) 3 f_LineReader_apart fd_LineReader_apart ["self", "found"] (spX K xc g_LineReader_apart)) (mt_LineReader_apart : Meth K C_LineReader "apart" f_LineReader_apart) (b_LineReader_apart : Binds K fd_LineReader_apart ["self", "found"] []) (mm_int : mg "int" = none) (mm_len : mg "len" = none) : FnOk P w K mg base (L2.CX P w) 4 f fd ["self"] (spX K xc g_LineReader_breaker) :=
  def_okX D sc_LineReader_breaker (by decide) fun cdv A outer s H E H0 as0 O0 hr => by
    have nd := sc_LineReader_breaker.nd
    exact (ds_cons (ds_par 1 2 rfl nd (da_cons (de_methR0 1 O_LineReader (by decide) mt_LineReader_name_next G_LineReader_name_next (hr.mono (by decide)) b_LineReader_name_next (takes_of rfl rfl rfl rfl) (de_var 0)) (da_cons de_int da_nil)))
    (ds_cons (ds_if (dt_bool (dw_and (dt_lt2 hr.units rfl (de_fld 1 2 rfl O_LineReader rfl (de_var 0)) (de_len2 rfl mm_len (da_cons (de_fld 1 0 rfl O_LineReader rfl (de_var 0)) da_nil))) (dw_and1 (dt_eq hr.units rfl (de_ix2 (room1 hr) rfl (de_fld 1 0 rfl O_LineReader rfl (de_var 0)) (de_fld 1 2 rfl O_LineReader rfl (de_var 0))) de_str)))) (ds_cons (ds_fldAdd 1 2 rfl O_LineReader rfl (de_var 0) de_int)
    (ds_cons (ds_if (dt_notIn2 hr rfl (de_slice rfl (de_fld 1 0 rfl O_LineReader rfl (de_var 0)) (do_some (de_fld 1 2 rfl O_LineReader rfl (de_var 0))) (do_some (de_add rfl (de_fld 1 2 rfl O_LineReader rfl (de_var 0)) de_int))) (de_tup (da_cons de_str (da_cons de_str da_nil)))) (ds_one (ds_expr (de_methR0 1 O_LineReader (by decide) mt_LineReader_wrong G_LineReader_wrong (hr.mono (by decide)) b_LineReader_wrong (takes_of rfl rfl rfl rfl) (de_var 0)))) ds_nil)
    (ds_cons (ds_set 2 nd (de_intOf2 mm_int (da_cons (de_ix2 (room1 hr) rfl (de_fld 1 0 rfl O_LineReader rfl (de_var 0)) (de_fld 1 2 rfl O_LineReader rfl (de_var 0))) da_nil)))
    (ds_cons (ds_fldAdd 1 2 rfl O_LineReader rfl (de_var 0) de_int)
    (ds_one (ds_ret (de_tup (da_cons (de_methR 1 O_LineReader (by decide) mt_LineReader_apart G_LineReader_apart (hr.mono (by decide)) b_LineReader_apart (takes_of rfl rfl rfl rfl) (de_var 0) (da_cons (de_tup (da_cons (de_var 1) (da_cons (de_var 2) da_nil))) da_nil)) (da_cons de_bl da_nil))))))))) ds_nil)
    (ds_one (ds_ret (de_tup (da_cons (de_methR 1 O_LineReader (by decide) mt_LineReader_apart G_LineReader_apart (hr.mono (by decide)) b_LineReader_apart (takes_of rfl rfl rfl rfl) (de_var 0) (da_cons (de_tup (da_cons (de_var 1) (da_cons (de_var 2) da_nil))) da_nil)) (da_cons de_bl da_nil)))))))
theorem ok_read_breaker {f : Addr} {fd : FuncData} (D : Fun K "read_breaker" "read_breaker" s_read_breaker f fd) {C_LineReader : Addr} (O_LineReader : ObK K xc 1 C_LineReader ["line", "number", "here"]) {f_LineReader_skip : Addr} {fd_LineReader_skip : FuncData} (G_LineReader_skip : FnOk P w K mg base CX0 1 f_LineReader_skip fd_LineReader_skip ["self"] (spX K xc g_LineReader_skip)) (mt_LineReader_skip : Meth K C_LineReader "skip" f_LineReader_skip) (b_LineReader_skip : Binds K fd_LineReader_skip ["self"] []) {f_LineReader_breaker : Addr} {fd_LineReader_breaker : FuncData} (G_LineReader_breaker : FnOk P w K mg base (L2.CX P w) 4 f_LineReader_breaker fd_LineReader_breaker ["self"] (spX K xc g_LineReader_breaker)) (mt_LineReader_breaker : Meth K C_LineReader "breaker" f_LineReader_breaker) (b_LineReader_breaker : Binds K fd_LineReader_breaker ["self"] []) {f_LineReader_wrong : Addr} {fd_LineReader_wrong : FuncData} (G_LineReader_wrong : FnOk P w K mg base (L2.CX P w) 2 f_LineReader_wrong fd_LineReader_wrong ["self"] (spX K xc g_LineReader_wrong)) (mt_LineReader_wrong : Meth K C_LineReader "wrong" f_LineReader_wrong) (b_LineReader_wrong : Binds K fd_LineReader_wrong ["self"] []) : FnOk P w K mg base (L2.CX P w) 5 f fd ["reader", "lines"] (spX K xc g_read_breaker) :=
  def_okX D sc_read_breaker (by decide) fun cdv A outer s H E H0 as0 O0 hr => by
    have nd := sc_read_breaker.nd
    exact (ds_cons (ds_expr (de_meth0 1 O_LineReader (by decide) mt_LineReader_skip G_LineReader_skip (hr.mono (by decide)) b_LineReader_skip (fun σ => passAt0 σ) (de_var 0)))
    (ds_cons (ds_set 2 nd (de_fld 1 2 rfl O_LineReader rfl (de_var 0)))
    (ds_cons (ds_asg (de_methR0 1 O_LineReader (by decide) mt_LineReader_breaker G_LineReader_breaker (hr.mono (by decide)) b_LineReader_breaker (takes_of rfl rfl rfl rfl) (de_var 0)) (dg_tup rfl rfl (dgs_cons (dg_name 3 nd) (dgs_cons (dg_name 4 nd) dgs_nil))))
    (ds_cons (ds_if (dt_ne hr.units rfl (de_in2 hr rfl (de_ix2 (room1 hr) rfl (de_var 3) de_int) (de_var 1)) (de_var 4)) (ds_cons (ds_fld 1 2 rfl O_LineReader rfl (de_var 0) (de_var 2))
    (ds_one (ds_expr (de_methR0 1 O_LineReader (by decide) mt_LineReader_wrong G_LineReader_wrong (hr.mono (by decide)) b_LineReader_wrong (takes_of rfl rfl rfl rfl) (de_var 0))))) ds_nil)
    (ds_one (ds_ret (de_var 3)))))))
theorem ok_LineReader_number_next {f : Addr} {fd : FuncData} (D : Fun K "number_next" "LineReader.number_next" s_LineReader_number_next f fd) {C_LineReader : Addr} (O_LineReader : ObK K xc 1 C_LineReader ["line", "number", "here"]) {f_LineReader_skip : Addr} {fd_LineReader_skip : FuncData} (G_LineReader_skip : FnOk P w K mg base CX0 1 f_LineReader_skip fd_LineReader_skip ["self"] (spX K xc g_LineReader_skip)) (mt_LineReader_skip : Meth K C_LineReader "skip" f_LineReader_skip) (b_LineReader_skip : Binds K fd_LineReader_skip ["self"] []) {f_LineReader_end_of : Addr} {fd_LineReader_end_of : FuncData} (G_LineReader_end_of : FnOk P w K mg base CX0 1 f_LineReader_end_of fd_LineReader_end_of ["self", "signs"] (spX K xc g_LineReader_end_of)) (mt_LineReader_end_of : Meth K C_LineReader "end_of" f_LineReader_end_of) (b_LineReader_end_of : Binds K fd_LineReader_end_of ["self", "signs"] []) {f_LineReader_wrong : Addr} {fd_LineReader_wrong : FuncData} (G_LineReader_wrong : FnOk P w K mg base (L2.CX P w) 2 f_LineReader_wrong fd_LineReader_wrong ["self"] (spX K xc g_LineReader_wrong)) (mt_LineReader_wrong : Meth K C_LineReader "wrong" f_LineReader_wrong) (b_LineReader_wrong : Binds K fd_LineReader_wrong ["self"] []) (mm_int : mg "int" = none) (mm_len : mg "len" = none) (t_FIGURES : Top K mg "FIGURES" (.str "0123456789")) (t_MOST_FIGURES : Top K mg "MOST_FIGURES" (.int 4)) (t_MOST_X : Top K mg "MOST_X" (.int 1000)) : FnOk P w K mg base (L2.CX P w) 3 f fd ["self"] (spX K xc g_LineReader_number_next) :=
  def_okX D sc_LineReader_number_next (by decide) fun cdv A outer s H E H0 as0 O0 hr => by
    have nd := sc_LineReader_number_next.nd
    exact (ds_cons (ds_expr (de_meth0 1 O_LineReader (by decide) mt_LineReader_skip G_LineReader_skip (hr.mono (by decide)) b_LineReader_skip (fun σ => passAt0 σ) (de_var 0)))
    (ds_cons (ds_set 1 nd (de_slice rfl (de_fld 1 0 rfl O_LineReader rfl (de_var 0)) (do_some (de_fld 1 2 rfl O_LineReader rfl (de_var 0))) (do_some (de_meth 1 O_LineReader (by decide) mt_LineReader_end_of G_LineReader_end_of (hr.mono (by decide)) b_LineReader_end_of (fun σ => passAt0 σ) (de_var 0) (da_cons (de_top t_FIGURES) da_nil)))))
    (ds_cons (ds_if (dt_bool (dw_or (dt_not (dt_chain (cp_le) (cp_le) de_int (de_len2 rfl mm_len (da_cons (de_var 1) da_nil)) (de_top t_MOST_FIGURES))) (dw_or (dt_bool (dw_and (dt_eq hr.units rfl (de_ix2 (room1 hr) rfl (de_var 1) de_int) de_str) (dw_and1 (dt_ne hr.units rfl (de_var 1) de_str)))) (dw_or1 (dt_gt2 hr.units rfl (de_intOf2 mm_int (da_cons (de_var 1) da_nil)) (de_top t_MOST_X)))))) (ds_one (ds_expr (de_methR0 1 O_LineReader (by decide) mt_LineReader_wrong G_LineReader_wrong (hr.mono (by decide)) b_LineReader_wrong (takes_of rfl rfl rfl rfl) (de_var 0)))) ds_nil)
    (ds_cons (ds_fldAdd 1 2 rfl O_LineReader rfl (de_var 0) (de_len2 rfl mm_len (da_cons (de_var 1) da_nil)))
    (ds_one (ds_ret (de_intOf2 mm_int (da_cons (de_var 1) da_nil))))))))
theorem ok_LineReader_fraction {f : Addr} {fd : FuncData} (D : Fun K "fraction" "LineReader.fraction" s_LineReader_fraction f fd) {C_LineReader : Addr} (O_LineReader : ObK K xc 1 C_LineReader ["line", "number", "here"]) {f_LineReader_number_next : Addr} {fd_LineReader_number_next : FuncData} (G_LineReader_number_next : FnOk P w K mg base (L2.CX P w) 3 f_LineReader_number_next fd_LineReader_number_next ["self"] (spX K xc g_LineReader_number_next)) (mt_LineReader_number_next : Meth K C_LineReader "number_next" f_LineReader_number_next) (b_LineReader_number_next : Binds K fd_LineReader_number_next ["self"] []) {f_LineReader_wrong : Addr} {fd_LineReader_wrong : FuncData} (G_LineReader_wrong : FnOk P w K mg base (L2.CX P w) 2 f_LineReader_wrong fd_LineReader_wrong ["self"] (spX K xc g_LineReader_wrong)) (mt_LineReader_wrong : Meth K C_LineReader "wrong" f_LineReader_wrong) (b_LineReader_wrong : Binds K fd_LineReader_wrong ["self"] []) {f_LineReader_apart : Addr} {fd_LineReader_apart : FuncData} (G_LineReader_apart : FnOk P w K mg base (L2.CX P w) 3 f_LineReader_apart fd_LineReader_apart ["self", "found"] (spX K xc g_LineReader_apart)) (mt_LineReader_apart : Meth K C_LineReader "apart" f_LineReader_apart) (b_LineReader_apart : Binds K fd_LineReader_apart ["self", "found"] []) {f_frac : Addr} {fd_frac : FuncData} (G_frac : FnOk P w K mg base CX0 2 f_frac fd_frac ["n", "d"] (spX K xc g_frac)) (m_frac : mg "frac" = some (.ref f_frac)) (k_frac : PySem.W.keepIn K (.ref f_frac) = true) (b_frac : Binds K fd_frac ["n", "d"] []) (mm_len : mg "len" = none) : FnOk P w K mg base (L2.CX P w) 4 f fd ["self"] (spX K xc g_LineReader_fraction) :=
  def_okX D sc_LineReader_fraction (by decide) fun cdv A outer s H E H0 as0 O0 hr => by
    have nd := sc_LineReader_fraction.nd
    exact (ds_cons (ds_par 1 2 rfl nd (da_cons (de_methR0 1 O_LineReader (by decide) mt_LineReader_number_next G_LineReader_number_next (hr.mono (by decide)) b_LineReader_number_next (takes_of rfl rfl rfl rfl) (de_var 0)) (da_cons de_int da_nil)))
    (ds_cons (ds_if (dt_bool (dw_and (dt_lt2 hr.units rfl (de_fld 1 2 rfl O_LineReader rfl (de_var 0)) (de_len2 rfl mm_len (da_cons (de_fld 1 0 rfl O_LineReader rfl (de_var 0)) da_nil))) (dw_and1 (dt_eq hr.units rfl (de_ix2 (room1 hr) rfl (de_fld 1 0 rfl O_LineReader rfl (de_var 0)) (de_fld 1 2 rfl O_LineReader rfl (de_var 0))) de_str)))) (ds_cons (ds_fldAdd 1 2 rfl O_LineReader rfl (de_var 0) de_int)
    (ds_cons (ds_set 3 nd (de_fld 1 2 rfl O_LineReader rfl (de_var 0)))
    (ds_cons (ds_if (dt_bool (dw_or (dt_eq hr.units rfl (de_fld 1 2 rfl O_LineReader rfl (de_var 0)) (de_len2 rfl mm_len (da_cons (de_fld 1 0 rfl O_LineReader rfl (de_var 0)) da_nil))) (dw_or1 (dt_eq hr.units rfl (de_ix2 (room1 hr) rfl (de_fld 1 0 rfl O_LineReader rfl (de_var 0)) (de_fld 1 2 rfl O_LineReader rfl (de_var 0))) de_str)))) (ds_one (ds_expr (de_methR0 1 O_LineReader (by decide) mt_LineReader_wrong G_LineReader_wrong (hr.mono (by decide)) b_LineReader_wrong (takes_of rfl rfl rfl rfl) (de_var 0)))) ds_nil)
    (ds_cons (ds_set 2 nd (de_methR0 1 O_LineReader (by decide) mt_LineReader_number_next G_LineReader_number_next (hr.mono (by decide)) b_LineReader_number_next (takes_of rfl rfl rfl rfl) (de_var 0)))
    (ds_one (ds_if (dt_eq hr.units rfl (de_var 2) de_int) (ds_cons (ds_fld 1 2 rfl O_LineReader rfl (de_var 0) (de_var 3))
    (ds_one (ds_expr (de_methR0 1 O_LineReader (by decide) mt_LineReader_wrong G_LineReader_wrong (hr.mono (by decide)) b_LineReader_wrong (takes_of rfl rfl rfl rfl) (de_var 0))))) ds_nil)))))) ds_nil)
    (ds_one (ds_ret (de_methR 1 O_LineReader (by decide) mt_LineReader_apart G_LineReader_apart (hr.mono (by decide)) b_LineReader_apart (takes_of rfl rfl rfl rfl) (de_var 0) (da_cons (de_call G_frac (hr.mono (by decide)) m_frac k_frac b_frac pass0 (da_cons (de_var 1) (da_cons (de_var 2) da_nil))) da_nil))))))
theorem ok_read_told {f : Addr} {fd : FuncData} (D : Fun K "read_told" "read_told" s_read_told f fd) {C_LineReader : Addr} (O_LineReader : ObK K xc 1 C_LineReader ["line", "number", "here"]) {f_LineReader_taken : Addr} {fd_LineReader_taken : FuncData} (G_LineReader_taken : FnOk P w K mg base CX0 3 f_LineReader_taken fd_LineReader_taken ["self", "word"] (spX K xc g_LineReader_taken)) (mt_LineReader_taken : Meth K C_LineReader "taken" f_LineReader_taken) (b_LineReader_taken : Binds K fd_LineReader_taken ["self", "word"] []) {f_read_breaker : Addr} {fd_read_breaker : FuncData} (G_read_breaker : FnOk P w K mg base (L2.CX P w) 5 f_read_breaker fd_read_breaker ["reader", "lines"] (spX K xc g_read_breaker)) (m_read_breaker : mg "read_breaker" = some (.ref f_read_breaker)) (k_read_breaker : PySem.W.keepIn K (.ref f_read_breaker) = true) (b_read_breaker : Binds K fd_read_breaker ["reader", "lines"] []) {f_LineReader_fraction : Addr} {fd_LineReader_fraction : FuncData} (G_LineReader_fraction : FnOk P w K mg base (L2.CX P w) 4 f_LineReader_fraction fd_LineReader_fraction ["self"] (spX K xc g_LineReader_fraction)) (mt_LineReader_fraction : Meth K C_LineReader "fraction" f_LineReader_fraction) (b_LineReader_fraction : Binds K fd_LineReader_fraction ["self"] []) {f_LineReader_name_next : Addr} {fd_LineReader_name_next : FuncData} (G_LineReader_name_next : FnOk P w K mg base (L2.CX P w) 3 f_LineReader_name_next fd_LineReader_name_next ["self"] (spX K xc g_LineReader_name_next)) (mt_LineReader_name_next : Meth K C_LineReader "name_next" f_LineReader_name_next) (b_LineReader_name_next : Binds K fd_LineReader_name_next ["self"] []) {f_LineReader_want : Addr} {fd_LineReader_want : FuncData} (G_LineReader_want : FnOk P w K mg base (L2.CX P w) 4 f_LineReader_want fd_LineReader_want ["self", "word"] (spX K xc g_LineReader_want)) (mt_LineReader_want : Meth K C_LineReader "want" f_LineReader_want) (b_LineReader_want : Binds K fd_LineReader_want ["self", "word"] []) : FnOk P w K mg base (L2.CX P w) 6 f fd ["reader", "lines"] (spX K xc g_read_told) :=
  def_okX D sc_read_told (by decide) fun cdv A outer s H E H0 as0 O0 hr => by
    have nd := sc_read_told.nd
    exact (ds_cons (ds_if (dt_val (de_meth 1 O_LineReader (by decide) mt_LineReader_taken G_LineReader_taken (hr.mono (by decide)) b_LineReader_taken (fun σ => passAt0 σ) (de_var 0) (da_cons de_str da_nil))) (ds_cons (ds_par 2 3 rfl nd (da_cons (de_callR G_read_breaker (hr.mono (by decide)) m_read_breaker k_read_breaker b_read_breaker (takes_of rfl rfl rfl rfl) (da_cons (de_var 0) (da_cons (de_var 1) da_nil))) (da_cons (de_methR0 1 O_LineReader (by decide) mt_LineReader_fraction G_LineReader_fraction (hr.mono (by decide)) b_LineReader_fraction (takes_of rfl rfl rfl rfl) (de_var 0)) da_nil)))
    (ds_one (ds_ret (de_tup (da_cons de_str (da_cons (de_var 2) (da_cons (de_var 3) (da_cons (de_meth 1 O_LineReader (by decide) mt_LineReader_taken G_LineReader_taken (hr.mono (by decide)) b_LineReader_taken (fun σ => passAt0 σ) (de_var 0) (da_cons de_str da_nil)) da_nil)))))))) ds_nil)
    (ds_cons (ds_if (dt_val (de_meth 1 O_LineReader (by decide) mt_LineReader_taken G_LineReader_taken (hr.mono (by decide)) b_LineReader_taken (fun σ => passAt0 σ) (de_var 0) (da_cons de_str da_nil))) (ds_cons (ds_set 2 nd (de_callR G_read_breaker (hr.mono (by decide)) m_read_breaker k_read_breaker b_read_breaker (takes_of rfl rfl rfl rfl) (da_cons (de_var 0) (da_cons (de_var 1) da_nil))))
    (ds_one (ds_ret (de_tup (da_cons de_str (da_cons (de_var 2) (da_cons (de_methR0 1 O_LineReader (by decide) mt_LineReader_fraction G_LineReader_fraction (hr.mono (by decide)) b_LineReader_fraction (takes_of rfl rfl rfl rfl) (de_var 0)) da_nil))))))) ds_nil)
    (ds_cons (ds_if (dt_val (de_meth 1 O_LineReader (by decide) mt_LineReader_taken G_LineReader_taken (hr.mono (by decide)) b_LineReader_taken (fun σ => passAt0 σ) (de_var 0) (da_cons de_str da_nil))) (ds_cons (ds_set 4 nd (de_methR0 1 O_LineReader (by decide) mt_LineReader_name_next G_LineReader_name_next (hr.mono (by decide)) b_LineReader_name_next (takes_of rfl rfl rfl rfl) (de_var 0)))
    (ds_one (ds_ret (de_tup (da_cons de_str (da_cons (de_var 4) (da_cons (de_methR0 1 O_LineReader (by decide) mt_LineReader_fraction G_LineReader_fraction (hr.mono (by decide)) b_LineReader_fraction (takes_of rfl rfl rfl rfl) (de_var 0)) da_nil))))))) ds_nil)
    (ds_cons (ds_expr (de_methR 1 O_LineReader (by decide) mt_LineReader_want G_LineReader_want (hr.mono (by decide)) b_LineReader_want (takes_of rfl rfl rfl rfl) (de_var 0) (da_cons de_str da_nil)))
    (ds_one (ds_ret (de_tup (da_cons de_str (da_cons (de_callR G_read_breaker (hr.mono (by decide)) m_read_breaker k_read_breaker b_read_breaker (takes_of rfl rfl rfl rfl) (da_cons (de_var 0) (da_cons (de_var 1) da_nil))) da_nil)))))))))
theorem ok_LineReader_is_over {f : Addr} {fd : FuncData} (D : Fun K "is_over" "LineReader.is_over" s_LineReader_is_over f fd) {C_LineReader : Addr} (O_LineReader : ObK K xc 1 C_LineReader ["line", "number", "here"]) {f_LineReader_skip : Addr} {fd_LineReader_skip : FuncData} (G_LineReader_skip : FnOk P w K mg base CX0 1 f_LineReader_skip fd_LineReader_skip ["self"] (spX K xc g_LineReader_skip)) (mt_LineReader_skip : Meth K C_LineReader "skip" f_LineReader_skip) (b_LineReader_skip : Binds K fd_LineReader_skip ["self"] []) (mm_len : mg "len" = none) : FnOk P w K mg base CX0 2 f fd ["self"] (spX K xc g_LineReader_is_over) :=
  def_ok D sc_LineReader_is_over (by decide) fun cdv A outer s H E H0 as0 O0 hr => by
    have nd := sc_LineReader_is_over.nd
    exact (ds_cons (ds_expr (de_meth0 1 O_LineReader (by decide) mt_LineReader_skip G_LineReader_skip (hr.mono (by decide)) b_LineReader_skip (fun σ => passAt0 σ) (de_var 0)))
    (ds_one (ds_ret (de_or (de_eq hr.units rfl (de_fld 1 2 rfl O_LineReader rfl (de_var 0)) (de_len2 rfl mm_len (da_cons (de_fld 1 0 rfl O_LineReader rfl (de_var 0)) da_nil))) (de_one (de_eq hr.units rfl (de_ix2 (room1 hr) rfl (de_fld 1 0 rfl O_LineReader rfl (de_var 0)) (de_fld 1 2 rfl O_LineReader rfl (de_var 0))) de_str))))))
theorem ok_read_guard {f : Addr} {fd : FuncData} (D : Fun K "read_guard" "read_guard" s_read_guard f fd) {C_LineReader : Addr} (O_LineReader : ObK K xc 1 C_LineReader ["line", "number", "here"]) {f_LineReader_name_next : Addr} {fd_LineReader_name_next : FuncData} (G_LineReader_name_next : FnOk P w K mg base (L2.CX P w) 3 f_LineReader_name_next fd_LineReader_name_next ["self"] (spX K xc g_LineReader_name_next)) (mt_LineReader_name_next : Meth K C_LineReader "name_next" f_LineReader_name_next) (b_LineReader_name_next : Binds K fd_LineReader_name_next ["self"] []) {f_read_told : Addr} {fd_read_told : FuncData} (G_read_told : FnOk P w K mg base (L2.CX P w) 6 f_read_told fd_read_told ["reader", "lines"] (spX K xc g_read_told)) (m_read_told : mg "read_told" = some (.ref f_read_told)) (k_read_told : PySem.W.keepIn K (.ref f_read_told) = true) (b_read_told : Binds K fd_read_told ["reader", "lines"] []) {f_LineReader_want : Addr} {fd_LineReader_want : FuncData} (G_LineReader_want : FnOk P w K mg base (L2.CX P w) 4 f_LineReader_want fd_LineReader_want ["self", "word"] (spX K xc g_LineReader_want)) (mt_LineReader_want : Meth K C_LineReader "want" f_LineReader_want) (b_LineReader_want : Binds K fd_LineReader_want ["self", "word"] []) {f_LineReader_apart : Addr} {fd_LineReader_apart : FuncData} (G_LineReader_apart : FnOk P w K mg base (L2.CX P w) 3 f_LineReader_apart fd_LineReader_apart ["self", "found"] (spX K xc g_LineReader_apart)) (mt_LineReader_apart : Meth K C_LineReader "apart" f_LineReader_apart) (b_LineReader_apart : Binds K fd_LineReader_apart ["self", "found"] []) {f_LineReader_number_next : Addr} {fd_LineReader_number_next : FuncData} (G_LineReader_number_next : FnOk P w K mg base (L2.CX P w) 3 f_LineReader_number_next fd_LineReader_number_next ["self"] (spX K xc g_LineReader_number_next)) (mt_LineReader_number_next : Meth K C_LineReader "number_next" f_LineReader_number_next) (b_LineReader_number_next : Binds K fd_LineReader_number_next ["self"] []) {f_read_breaker : Addr} {fd_read_breaker : FuncData} (G_read_breaker : FnOk P w K mg base (L2.CX P w) 5 f_read_breaker fd_read_breaker ["reader", "lines"] (spX K xc g_read_breaker)) (m_read_breaker : mg "read_breaker" = some (.ref f_read_breaker)) (k_read_breaker : PySem.W.keepIn K (.ref f_read_breaker) = true) (b_read_breaker : Binds K fd_read_breaker ["reader", "lines"] []) {f_LineReader_is_over : Addr} {fd_LineReader_is_over : FuncData} (G_LineReader_is_over : FnOk P w K mg base CX0 2 f_LineReader_is_over fd_LineReader_is_over ["self"] (spX K xc g_LineReader_is_over)) (mt_LineReader_is_over : Meth K C_LineReader "is_over" f_LineReader_is_over) (b_LineReader_is_over : Binds K fd_LineReader_is_over ["self"] []) (mm_sorted : mg "sorted" = none) (mm_tuple : mg "tuple" = none) : FnOk P w K mg base (L2.CX P w) 7 f fd ["reader", "lines"] (spX K xc g_read_guard) :=
  def_okX D sc_read_guard (by decide) fun cdv A outer s H E H0 as0 O0 hr => by
    have nd := sc_read_guard.nd
    exact (ds_cons (ds_set 2 nd (de_methR0 1 O_LineReader (by decide) mt_LineReader_name_next G_LineReader_name_next (hr.mono (by decide)) b_LineReader_name_next (takes_of rfl rfl rfl rfl) (de_var 0)))
    (ds_cons (ds_set 3 nd (de_callR G_read_told (hr.mono (by decide)) m_read_told k_read_told b_read_told (takes_of rfl rfl rfl rfl) (da_cons (de_var 0) (da_cons (de_var 1) da_nil))))
    (ds_cons (ds_expr (de_methR 1 O_LineReader (by decide) mt_LineReader_want G_LineReader_want (hr.mono (by decide)) b_LineReader_want (takes_of rfl rfl rfl rfl) (de_var 0) (da_cons de_str da_nil)))
    (ds_cons (ds_set 4 nd (de_methR 1 O_LineReader (by decide) mt_LineReader_apart G_LineReader_apart (hr.mono (by decide)) b_LineReader_apart (takes_of rfl rfl rfl rfl) (de_var 0) (da_cons (de_methR0 1 O_LineReader (by decide) mt_LineReader_number_next G_LineReader_number_next (hr.mono (by decide)) b_LineReader_number_next (takes_of rfl rfl rfl rfl) (de_var 0)) da_nil)))
    (ds_cons (ds_expr (de_methR 1 O_LineReader (by decide) mt_LineReader_want G_LineReader_want (hr.mono (by decide)) b_LineReader_want (takes_of rfl rfl rfl rfl) (de_var 0) (da_cons de_str da_nil)))
    (ds_cons (ds_setOwn 5 nd (da_cons (de_callR G_read_breaker (hr.mono (by decide)) m_read_breaker k_read_breaker b_read_breaker (takes_of rfl rfl rfl rfl) (da_cons (de_var 0) (da_cons (de_var 1) da_nil))) da_nil))
    (ds_cons (ds_while (passes_of rfl) (dt_not (dt_val (de_meth0 1 O_LineReader (by decide) mt_LineReader_is_over G_LineReader_is_over (hr.mono (by decide)) b_LineReader_is_over (fun σ => passAt0 σ) (de_var 0)))) (ds_one (ds_append 5 (de_callR G_read_breaker (hr.mono (by decide)) m_read_breaker k_read_breaker b_read_breaker (takes_of rfl rfl rfl rfl) (da_cons (de_var 0) (da_cons (de_var 1) da_nil))))))
    (ds_one (ds_freeze 5 (ds_ret (de_tup (da_cons (de_var 2) (da_cons (de_var 3) (da_cons (de_var 4) (da_cons (de_tupOf2 rfl mm_tuple (da_cons (de_sortD hr rfl mm_sorted (da_cons (de_var 5) da_nil)) da_nil)) da_nil)))))))))))))))
theorem ok_read_line {f : Addr} {fd : FuncData} (D : Fun K "read_line" "read_line" s_read_line f fd) {C_LineReader : Addr} (O_LineReader : ObK K xc 1 C_LineReader ["line", "number", "here"]) {f_LineReader_word : Addr} {fd_LineReader_word : FuncData} (G_LineReader_word : FnOk P w K mg base CX0 2 f_LineReader_word fd_LineReader_word ["self"] (spX K xc g_LineReader_word)) (mt_LineReader_word : Meth K C_LineReader "word" f_LineReader_word) (b_LineReader_word : Binds K fd_LineReader_word ["self"] []) {f_LineReader_wrong : Addr} {fd_LineReader_wrong : FuncData} (G_LineReader_wrong : FnOk P w K mg base (L2.CX P w) 2 f_LineReader_wrong fd_LineReader_wrong ["self"] (spX K xc g_LineReader_wrong)) (mt_LineReader_wrong : Meth K C_LineReader "wrong" f_LineReader_wrong) (b_LineReader_wrong : Binds K fd_LineReader_wrong ["self"] []) {f_LineReader_taken : Addr} {fd_LineReader_taken : FuncData} (G_LineReader_taken : FnOk P w K mg base CX0 3 f_LineReader_taken fd_LineReader_taken ["self", "word"] (spX K xc g_LineReader_taken)) (mt_LineReader_taken : Meth K C_LineReader "taken" f_LineReader_taken) (b_LineReader_taken : Binds K fd_LineReader_taken ["self", "word"] []) {f_LineReader_name_next : Addr} {fd_LineReader_name_next : FuncData} (G_LineReader_name_next : FnOk P w K mg base (L2.CX P w) 3 f_LineReader_name_next fd_LineReader_name_next ["self"] (spX K xc g_LineReader_name_next)) (mt_LineReader_name_next : Meth K C_LineReader "name_next" f_LineReader_name_next) (b_LineReader_name_next : Binds K fd_LineReader_name_next ["self"] []) {f_LineReader_apart : Addr} {fd_LineReader_apart : FuncData} (G_LineReader_apart : FnOk P w K mg base (L2.CX P w) 3 f_LineReader_apart fd_LineReader_apart ["self", "found"] (spX K xc g_LineReader_apart)) (mt_LineReader_apart : Meth K C_LineReader "apart" f_LineReader_apart) (b_LineReader_apart : Binds K fd_LineReader_apart ["self", "found"] []) {f_LineReader_number_next : Addr} {fd_LineReader_number_next : FuncData} (G_LineReader_number_next : FnOk P w K mg base (L2.CX P w) 3 f_LineReader_number_next fd_LineReader_number_next ["self"] (spX K xc g_LineReader_number_next)) (mt_LineReader_number_next : Meth K C_LineReader "number_next" f_LineReader_number_next) (b_LineReader_number_next : Binds K fd_LineReader_number_next ["self"] []) {f_read_guard : Addr} {fd_read_guard : FuncData} (G_read_guard : FnOk P w K mg base (L2.CX P w) 7 f_read_guard fd_read_guard ["reader", "lines"] (spX K xc g_read_guard)) (m_read_guard : mg "read_guard" = some (.ref f_read_guard)) (k_read_guard : PySem.W.keepIn K (.ref f_read_guard) = true) (b_read_guard : Binds K fd_read_guard ["reader", "lines"] []) {f_LineReader_fraction : Addr} {fd_LineReader_fraction : FuncData} (G_LineReader_fraction : FnOk P w K mg base (L2.CX P w) 4 f_LineReader_fraction fd_LineReader_fraction ["self"] (spX K xc g_LineReader_fraction)) (mt_LineReader_fraction : Meth K C_LineReader "fraction" f_LineReader_fraction) (b_LineReader_fraction : Binds K fd_LineReader_fraction ["self"] []) {f_LineReader_want : Addr} {fd_LineReader_want : FuncData} (G_LineReader_want : FnOk P w K mg base (L2.CX P w) 4 f_LineReader_want fd_LineReader_want ["self", "word"] (spX K xc g_LineReader_want)) (mt_LineReader_want : Meth K C_LineReader "want" f_LineReader_want) (b_LineReader_want : Binds K fd_LineReader_want ["self", "word"] []) {f_LineReader_is_over : Addr} {fd_LineReader_is_over : FuncData} (G_LineReader_is_over : FnOk P w K mg base CX0 2 f_LineReader_is_over fd_LineReader_is_over ["self"] (spX K xc g_LineReader_is_over)) (mt_LineReader_is_over : Meth K C_LineReader "is_over" f_LineReader_is_over) (b_LineReader_is_over : Binds K fd_LineReader_is_over ["self"] []) : FnOk P w K mg base (L2.CX P w) 8 f fd ["reader", "found"] (spX K xc g_read_line) :=
  def_okX D sc_read_line (by decide) fun cdv A outer s H E H0 as0 O0 hr => by
    have nd := sc_read_line.nd
    exact (ds_cons (ds_if (dt_in2 hr rfl (de_meth0 1 O_LineReader (by decide) mt_LineReader_word G_LineReader_word (hr.mono (by decide)) b_LineReader_word (fun σ => passAt0 σ) (de_var 0)) (de_ix2 (room1 hr) rfl (de_var 1) de_int)) (ds_one (ds_expr (de_methR0 1 O_LineReader (by decide) mt_LineReader_wrong G_LineReader_wrong (hr.mono (by decide)) b_LineReader_wrong (takes_of rfl rfl rfl rfl) (de_var 0)))) ds_nil)
    (ds_cons (ds_if (dt_val (de_meth 1 O_LineReader (by decide) mt_LineReader_taken G_LineReader_taken (hr.mono (by decide)) b_LineReader_taken (fun σ => passAt0 σ) (de_var 0) (da_cons de_str da_nil))) (ds_one (ds_appendC (de_ix2 (room1 hr) rfl (de_var 1) de_int) (de_methR0 1 O_LineReader (by decide) mt_LineReader_name_next G_LineReader_name_next (hr.mono (by decide)) b_LineReader_name_next (takes_of rfl rfl rfl rfl) (de_var 0)))) (ds_one (ds_if (dt_val (de_meth 1 O_LineReader (by decide) mt_LineReader_taken G_LineReader_taken (hr.mono (by decide)) b_LineReader_taken (fun σ => passAt0 σ) (de_var 0) (da_cons de_str da_nil))) (ds_cons (ds_par3 2 3 4 rfl nd (da_cons (de_methR0 1 O_LineReader (by decide) mt_LineReader_name_next G_LineReader_name_next (hr.mono (by decide)) b_LineReader_name_next (takes_of rfl rfl rfl rfl) (de_var 0)) (da_cons (de_methR0 1 O_LineReader (by decide) mt_LineReader_name_next G_LineReader_name_next (hr.mono (by decide)) b_LineReader_name_next (takes_of rfl rfl rfl rfl) (de_var 0)) (da_cons (de_methR0 1 O_LineReader (by decide) mt_LineReader_name_next G_LineReader_name_next (hr.mono (by decide)) b_LineReader_name_next (takes_of rfl rfl rfl rfl) (de_var 0)) da_nil))))
    (ds_one (ds_appendC (de_ix2 (room1 hr) rfl (de_var 1) de_int) (de_tup (da_cons (de_var 2) (da_cons (de_var 3) (da_cons (de_var 4) (da_cons (de_methR 1 O_LineReader (by decide) mt_LineReader_apart G_LineReader_apart (hr.mono (by decide)) b_LineReader_apart (takes_of rfl rfl rfl rfl) (de_var 0) (da_cons (de_methR0 1 O_LineReader (by decide) mt_LineReader_number_next G_LineReader_number_next (hr.mono (by decide)) b_LineReader_number_next (takes_of rfl rfl rfl rfl) (de_var 0)) da_nil)) da_nil)))))))) (ds_one (ds_if (dt_val (de_meth 1 O_LineReader (by decide) mt_LineReader_taken G_LineReader_taken (hr.mono (by decide)) b_LineReader_taken (fun σ => passAt0 σ) (de_var 0) (da_cons de_str da_nil))) (ds_cons (ds_par 2 5 rfl nd (da_cons (de_methR0 1 O_LineReader (by decide) mt_LineReader_name_next G_LineReader_name_next (hr.mono (by decide)) b_LineReader_name_next (takes_of rfl rfl rfl rfl) (de_var 0)) (da_cons (de_methR0 1 O_LineReader (by decide) mt_LineReader_name_next G_LineReader_name_next (hr.mono (by decide)) b_LineReader_name_next (takes_of rfl rfl rfl rfl) (de_var 0)) da_nil)))
    (ds_one (ds_appendC (de_ix2 (room1 hr) rfl (de_var 1) de_int) (de_tup (da_cons (de_var 2) (da_cons (de_var 5) (da_cons (de_methR 1 O_LineReader (by decide) mt_LineReader_apart G_LineReader_apart (hr.mono (by decide)) b_LineReader_apart (takes_of rfl rfl rfl rfl) (de_var 0) (da_cons (de_methR0 1 O_LineReader (by decide) mt_LineReader_number_next G_LineReader_number_next (hr.mono (by decide)) b_LineReader_number_next (takes_of rfl rfl rfl rfl) (de_var 0)) da_nil)) da_nil))))))) (ds_one (ds_if (dt_val (de_meth 1 O_LineReader (by decide) mt_LineReader_taken G_LineReader_taken (hr.mono (by decide)) b_LineReader_taken (fun σ => passAt0 σ) (de_var 0) (da_cons de_str da_nil))) (ds_one (ds_appendC (de_ix2 (room1 hr) rfl (de_var 1) de_int) (de_callR G_read_guard (hr.mono (by decide)) m_read_guard k_read_guard b_read_guard (takes_of rfl rfl rfl rfl) (da_cons (de_var 0) (da_cons (de_lcC rfl (own := [("line", 7)]) rfl nd (blkOk_by (N := ["reader", "found", "name", "first", "second", "bus", "least", "line"]) (sc := defScope s_read_line) (by decide +kernel)) (de_ix2 (room1 hr) rfl (de_var 1) de_int) (fun _ _ _ _ _ => (dg_name 7 nd)) (fun _ _ _ _ _ => dts_nil) (fun _ _ _ _ _ => (de_ix2 (room1 hr) rfl (de_var 7) de_int))) da_nil))))) (ds_one (ds_if (dt_val (de_meth 1 O_LineReader (by decide) mt_LineReader_taken G_LineReader_taken (hr.mono (by decide)) b_LineReader_taken (fun σ => passAt0 σ) (de_var 0) (da_cons de_str da_nil))) (ds_one (ds_item2 (room1 hr) (de_tup (da_cons (de_methR0 1 O_LineReader (by decide) mt_LineReader_fraction G_LineReader_fraction (hr.mono (by decide)) b_LineReader_fraction (takes_of rfl rfl rfl rfl) (de_var 0)) da_nil)) (de_ix2 (room1 hr) rfl (de_var 1) de_int) de_str)) (ds_one (ds_if (dt_val (de_meth 1 O_LineReader (by decide) mt_LineReader_taken G_LineReader_taken (hr.mono (by decide)) b_LineReader_taken (fun σ => passAt0 σ) (de_var 0) (da_cons de_str da_nil))) (ds_cons (ds_set 6 nd (de_methR 1 O_LineReader (by decide) mt_LineReader_apart G_LineReader_apart (hr.mono (by decide)) b_LineReader_apart (takes_of rfl rfl rfl rfl) (de_var 0) (da_cons (de_methR0 1 O_LineReader (by decide) mt_LineReader_number_next G_LineReader_number_next (hr.mono (by decide)) b_LineReader_number_next (takes_of rfl rfl rfl rfl) (de_var 0)) da_nil)))
    (ds_one (ds_item2 (room1 hr) (de_tup (da_cons (de_var 6) (da_cons (de_methR 1 O_LineReader (by decide) mt_LineReader_apart G_LineReader_apart (hr.mono (by decide)) b_LineReader_apart (takes_of rfl rfl rfl rfl) (de_var 0) (da_cons (de_methR0 1 O_LineReader (by decide) mt_LineReader_number_next G_LineReader_number_next (hr.mono (by decide)) b_LineReader_number_next (takes_of rfl rfl rfl rfl) (de_var 0)) da_nil)) da_nil))) (de_ix2 (room1 hr) rfl (de_var 1) de_int) de_str))) (ds_cons (ds_expr (de_methR 1 O_LineReader (by decide) mt_LineReader_want G_LineReader_want (hr.mono (by decide)) b_LineReader_want (takes_of rfl rfl rfl rfl) (de_var 0) (da_cons de_str da_nil)))
    (ds_one (ds_item2 (room1 hr) (de_tup (da_cons (de_methR 1 O_LineReader (by decide) mt_LineReader_apart G_LineReader_apart (hr.mono (by decide)) b_LineReader_apart (takes_of rfl rfl rfl rfl) (de_var 0) (da_cons (de_methR0 1 O_LineReader (by decide) mt_LineReader_number_next G_LineReader_number_next (hr.mono (by decide)) b_LineReader_number_next (takes_of rfl rfl rfl rfl) (de_var 0)) da_nil)) da_nil)) (de_ix2 (room1 hr) rfl (de_var 1) de_int) de_str))))))))))))))
    (ds_one (ds_if (dt_not (dt_val (de_meth0 1 O_LineReader (by decide) mt_LineReader_is_over G_LineReader_is_over (hr.mono (by decide)) b_LineReader_is_over (fun σ => passAt0 σ) (de_var 0)))) (ds_one (ds_expr (de_methR0 1 O_LineReader (by decide) mt_LineReader_wrong G_LineReader_wrong (hr.mono (by decide)) b_LineReader_wrong (takes_of rfl rfl rfl rfl) (de_var 0)))) ds_nil))))
theorem ok_LineReader___init__ {f : Addr} {fd : FuncData} (D : Fun K "__init__" "LineReader.__init__" s_LineReader___init__ f fd) {C_LineReader : Addr} (O_LineReader : ObK K xc 1 C_LineReader ["line", "number", "here"]) : FnOk P w K mg base CX0 1 f fd ["self", "line", "number"] (spX K xc g_LineReader___init__) :=
  def_ok D sc_LineReader___init__ (by decide) fun cdv A outer s H E H0 as0 O0 hr => by
    have nd := sc_LineReader___init__.nd
    exact (ds_cons (ds_fld 1 0 rfl O_LineReader rfl (de_var 0) (de_var 1))
    (ds_cons (ds_fld 1 1 rfl O_LineReader rfl (de_var 0) (de_var 2))
    (ds_one (ds_fld 1 2 rfl O_LineReader rfl (de_var 0) de_int))))
theorem ok_read_net {f : Addr} {fd : FuncData} (D : Fun K "read_net" "read_net" s_read_net f fd) {C_LineReader : Addr} (O_LineReader : ObK K xc 1 C_LineReader ["line", "number", "here"]) {f_LineReader___init__ : Addr} {fd_LineReader___init__ : FuncData} (G_LineReader___init__ : FnOk P w K mg base CX0 1 f_LineReader___init__ fd_LineReader___init__ ["self", "line", "number"] (spX K xc g_LineReader___init__)) (b_LineReader___init__ : Binds K fd_LineReader___init__ ["self", "line", "number"] []) {f_LineReader_is_over : Addr} {fd_LineReader_is_over : FuncData} (G_LineReader_is_over : FnOk P w K mg base CX0 2 f_LineReader_is_over fd_LineReader_is_over ["self"] (spX K xc g_LineReader_is_over)) (mt_LineReader_is_over : Meth K C_LineReader "is_over" f_LineReader_is_over) (b_LineReader_is_over : Binds K fd_LineReader_is_over ["self"] []) {f_read_line : Addr} {fd_read_line : FuncData} (G_read_line : FnOk P w K mg base (L2.CX P w) 8 f_read_line fd_read_line ["reader", "found"] (spX K xc g_read_line)) (m_read_line : mg "read_line" = some (.ref f_read_line)) (k_read_line : PySem.W.keepIn K (.ref f_read_line) = true) (b_read_line : Binds K fd_read_line ["reader", "found"] []) {f_check_net : Addr} {fd_check_net : FuncData} (G_check_net : FnOk P w K mg base (L2.CX P w) 5 f_check_net fd_check_net ["net"] (spX K xc g_check_net)) (m_check_net : mg "check_net" = some (.ref f_check_net)) (k_check_net : PySem.W.keepIn K (.ref f_check_net) = true) (b_check_net : Binds K fd_check_net ["net"] []) (M_LineReader : Mk K C_LineReader f_LineReader___init__) (mg_LineReader : mg "LineReader" = some (.ref C_LineReader)) {C_BadText B_BadText fI_BadText : Addr} (T_BadText : PySem.ExF.Tx_BadText K C_BadText B_BadText fI_BadText) (x_BadText : xc.ex 2 = some (C_BadText, (["line", "column"] : List Str))) (x_BadText_g : mg "BadText" = some (.ref C_BadText)) (mm_enumerate : mg "enumerate" = none) (mm_isinstance : mg "isinstance" = none) (mm_len : mg "len" = none) (mm_str : mg "str" = none) (mm_tuple : mg "tuple" = none) : FnOk P w K mg base (L2.CX P w) 9 f fd ["text"] (spX K xc g_read_net) :=
  FnOk.tidy <| def_okX D sc_read_net (by decide) fun cdv A outer s H E H0 as0 O0 hr => by
    have nd := sc_read_net.nd
    exact (ds_cons (ds_if (dt_not (dt_val (de_isi "str" rfl mm_isinstance mm_str (by decide +kernel) (de_var 0)))) (ds_one (ds_raise 2 rfl (takes_of rfl rfl rfl rfl) x_BadText rfl (pmk_BadText T_BadText x_BadText_g hr (da_cons de_int (da_cons de_int da_nil))))) ds_nil)
    (ds_cons (ds_par 1 2 rfl nd (da_cons (de_tup (da_cons (de_cellL da_nil) (da_cons (de_cellL da_nil) (da_cons (de_cellL da_nil) (da_cons (de_cellL da_nil) (da_cons de_cellD da_nil)))))) (da_cons (de_split (de_var 0) de_str) da_nil)))
    (ds_cons (ds_for (passes_of rfl) rfl (di_enumK rfl mm_enumerate (da_cons (de_var 2) (da_cons de_int da_nil))) (dg_tup rfl rfl (dgs_cons (dg_name 3 nd) (dgs_cons (dg_name 4 nd) dgs_nil))) (ds_cons (ds_set 7 nd (de_make 1 O_LineReader M_LineReader G_LineReader___init__ (hr.mono (by decide)) mg_LineReader b_LineReader___init__ pass0 (da_cons (de_var 4) (da_cons (de_var 3) da_nil))))
    (ds_one (ds_if (dt_not (dt_val (de_meth0 1 O_LineReader (by decide) mt_LineReader_is_over G_LineReader_is_over (hr.mono (by decide)) b_LineReader_is_over (fun σ => passAt0 σ) (de_var 7)))) (ds_one (ds_expr (de_callR G_read_line (hr.mono (by decide)) m_read_line k_read_line b_read_line (takes_of rfl rfl rfl rfl) (da_cons (de_var 7) (da_cons (de_var 1) da_nil))))) ds_nil))))
    (ds_cons (ds_set 5 nd (de_ix2 (room1 hr) rfl (de_var 1) de_int))
    (ds_cons (ds_if (dt_lt2 hr.units rfl (de_len2 rfl mm_len (da_cons (de_var 5) da_nil)) de_int) (ds_one (ds_raise 2 rfl (takes_of rfl rfl rfl rfl) x_BadText rfl (pmk_BadText T_BadText x_BadText_g hr (da_cons (de_len2 rfl mm_len (da_cons (de_var 2) da_nil)) (da_cons (de_add rfl (de_len2 rfl mm_len (da_cons (de_ix2 (room1 hr) rfl (de_var 2) (de_neg de_int)) da_nil)) de_int) da_nil))))) ds_nil)
    (ds_cons (ds_set 6 nd (de_tup (da_star rfl (de_lc (own := [("one", 8)]) rfl nd (blkOk_by (N := ["text", "found", "lines", "number", "line", "rules", "net", "reader", "one"]) (sc := defScope s_read_net) (by decide +kernel)) (di_seq rfl (de_slice rfl (de_var 1) do_none (do_some de_int))) (fun _ _ _ _ _ => (dg_name 8 nd)) (fun _ _ _ _ _ => dts_nil) (fun _ _ _ _ _ => (de_tupOf2 rfl mm_tuple (da_cons (de_var 8) da_nil)))) (da_cons (de_tup (da_star rfl (de_ix2 (room1 hr) rfl (de_var 5) de_str) (da_star rfl (de_ix2 (room1 hr) rfl (de_var 5) de_str) (da_star rfl (de_ix2 (room1 hr) rfl (de_var 5) de_str) da_nil)))) da_nil))))
    (ds_cons (ds_expr (de_callR G_check_net (hr.mono (by decide)) m_check_net k_check_net b_check_net (takes_of rfl rfl rfl rfl) (da_cons (de_var 6) da_nil)))
    (ds_one (ds_ret (de_var 6))))))))))
theorem ok__law_cell_at {f : Addr} {fd : FuncData} (D : Fun K "_law_cell_at" "_law_cell_at" s__law_cell_at f fd) (mm_len : mg "len" = none) : FnOk P w K mg base CX0 1 f fd ["_law_script", "_law_k"] (spX K xc g__law_cell_at) :=
  def_ok D sc__law_cell_at (by decide) fun cdv A outer s H E H0 as0 O0 hr => by
    have nd := sc__law_cell_at.nd
    exact (ds_cons (ds_if (dt_lt2 hr.units rfl (de_var 1) (de_len2 rfl mm_len (da_cons (de_var 0) da_nil))) (ds_one (ds_ret (de_ix2 (room1 hr) rfl (de_var 0) (de_var 1)))) ds_nil)
    (ds_one (ds_ret de_int)))
theorem ok__law_draw {f : Addr} {fd : FuncData} (D : Fun K "_law_draw" "_law_draw" s__law_draw f fd) (mm_int : mg "int" = none) : FnOk P w K mg base CX0 1 f fd ["_law_cell", "_law_k", "_law_bound"] (spX K xc g__law_draw) :=
  def_ok D sc__law_draw (by decide) fun cdv A outer s H E H0 as0 O0 hr => by
    have nd := sc__law_draw.nd
    exact (ds_cons (ds_set 3 nd (de_tup (da_cons de_int (da_cons de_int (da_cons de_int (da_cons de_int (da_cons de_int (da_cons de_int (da_cons de_int (da_cons de_int (da_cons de_int (da_cons de_int (da_cons de_int (da_cons de_int (da_cons de_int (da_cons de_int (da_cons de_int (da_cons de_int da_nil))))))))))))))))))
    (ds_one (ds_ret (de_mod (de_mod (de_intOf2 mm_int (da_cons (de_add rfl (de_mul2 rfl (de_var 0) de_int) (de_mul2 rfl (de_var 1) de_int)) da_nil)) (de_ix2 (room1 hr) rfl (de_var 3) (de_mod (de_intOf2 mm_int (da_cons (de_var 1) da_nil)) de_int))) (de_var 2)))))
theorem ok__law_number {f : Addr} {fd : FuncData} (D : Fun K "_law_number" "_law_number" s__law_number f fd) {f__law_draw : Addr} {fd__law_draw : FuncData} (G__law_draw : FnOk P w K mg base CX0 1 f__law_draw fd__law_draw ["_law_cell", "_law_k", "_law_bound"] (spX K xc g__law_draw)) (m__law_draw : mg "_law_draw" = some (.ref f__law_draw)) (k__law_draw : PySem.W.keepIn K (.ref f__law_draw) = true) (b__law_draw : Binds K fd__law_draw ["_law_cell", "_law_k", "_law_bound"] []) (mm_int : mg "int" = none) (mm_range : mg "range" = none) : FnOk P w K mg base CX0 2 f fd ["_law_cell", "_law_k", "_law_bound"] (spX K xc g__law_number) :=
  def_ok D sc__law_number (by decide) fun cdv A outer s H E H0 as0 O0 hr => by
    have nd := sc__law_number.nd
    exact (ds_cons (ds_set 3 nd de_int)
    (ds_cons (ds_for PassesOwn.never rfl (di_range1 mm_range (da_cons (de_mod (de_intOf2 mm_int (da_cons (de_var 1) da_nil)) de_int) da_nil)) (dg_name 4 nd) (ds_one (ds_set 3 nd (de_mul2 rfl (de_var 3) de_int))))
    (ds_cons (ds_set 5 nd (de_fdiv (de_sub (de_var 0) (de_pow de_int de_int)) (de_var 3)))
    (ds_cons (ds_if (dt_gt2 hr.units rfl (de_var 5) de_int) (ds_one (ds_ret (de_mod (de_mod (de_intOf2 mm_int (da_cons (de_var 5) da_nil)) de_int) (de_var 2)))) ds_nil)
    (ds_cons (ds_set 6 nd (de_mod (de_intOf2 mm_int (da_cons (de_var 0) da_nil)) de_int))
    (ds_one (ds_ret (de_mod (de_call G__law_draw (hr.mono (by decide)) m__law_draw k__law_draw b__law_draw pass0 (da_cons (de_mul2 rfl (de_add rfl (de_var 6) (de_mul2 rfl de_int (de_var 1))) (de_add rfl (de_add rfl (de_var 6) (de_mul2 rfl de_int (de_var 1))) de_int)) (da_cons (de_add rfl (de_mod (de_intOf2 mm_int (da_cons (de_var 1) da_nil)) de_int) de_int) (da_cons de_int da_nil)))) (de_var 2)))))))))
theorem ok__law_next {f : Addr} {fd : FuncData} (D : Fun K "_law_next" "_law_next" s__law_next f fd) {f__law_cell_at : Addr} {fd__law_cell_at : FuncData} (G__law_cell_at : FnOk P w K mg base CX0 1 f__law_cell_at fd__law_cell_at ["_law_script", "_law_k"] (spX K xc g__law_cell_at)) (m__law_cell_at : mg "_law_cell_at" = some (.ref f__law_cell_at)) (k__law_cell_at : PySem.W.keepIn K (.ref f__law_cell_at) = true) (b__law_cell_at : Binds K fd__law_cell_at ["_law_script", "_law_k"] []) {f__law_number : Addr} {fd__law_number : FuncData} (G__law_number : FnOk P w K mg base CX0 2 f__law_number fd__law_number ["_law_cell", "_law_k", "_law_bound"] (spX K xc g__law_number)) (m__law_number : mg "_law_number" = some (.ref f__law_number)) (k__law_number : PySem.W.keepIn K (.ref f__law_number) = true) (b__law_number : Binds K fd__law_number ["_law_cell", "_law_k", "_law_bound"] []) (mm_int : mg "int" = none) : FnOk P w K mg base CX0 3 f fd ["_law_draw_here", "_law_bound"] (spX K xc g__law_next) :=
  def_ok D sc__law_next (by decide) fun cdv A outer s H E H0 as0 O0 hr => by
    have nd := sc__law_next.nd
    exact (ds_cons (ds_item2 (room1 hr) (de_add rfl (de_ix2 (room1 hr) rfl (de_var 0) de_int) de_int) (de_var 0) de_int)
    (ds_cons (ds_set 2 nd (de_fdiv (de_ix2 (room1 hr) rfl (de_var 0) de_int) de_int))
    (ds_cons (ds_set 3 nd (de_add rfl (de_call G__law_cell_at (hr.mono (by decide)) m__law_cell_at k__law_cell_at b__law_cell_at pass0 (da_cons (de_ix2 (room1 hr) rfl (de_var 0) de_int) (da_cons (de_add rfl (de_ix2 (room1 hr) rfl (de_var 0) de_int) (de_var 2)) da_nil))) (de_mul2 rfl de_int (de_var 2))))
    (ds_one (ds_ret (de_call G__law_number (hr.mono (by decide)) m__law_number k__law_number b__law_number pass0 (da_cons (de_var 3) (da_cons (de_add rfl (de_mod (de_intOf2 mm_int (da_cons (de_ix2 (room1 hr) rfl (de_var 0) de_int) da_nil)) de_int) de_int) (da_cons (de_var 1) da_nil)))))))))
theorem ok__law_pick {f : Addr} {fd : FuncData} (D : Fun K "_law_pick" "_law_pick" s__law_pick f fd) {f__law_next : Addr} {fd__law_next : FuncData} (G__law_next : FnOk P w K mg base CX0 3 f__law_next fd__law_next ["_law_draw_here", "_law_bound"] (spX K xc g__law_next)) (m__law_next : mg "_law_next" = some (.ref f__law_next)) (k__law_next : PySem.W.keepIn K (.ref f__law_next) = true) (b__law_next : Binds K fd__law_next ["_law_draw_here", "_law_bound"] []) (mm_len : mg "len" = none) : FnOk P w K mg base CX0 4 f fd ["_law_draw_here", "_law_things"] (spX K xc g__law_pick) :=
  def_ok D sc__law_pick (by decide) fun cdv A outer s H E H0 as0 O0 hr => by
    have nd := sc__law_pick.nd
    exact (ds_one (ds_ret (de_ix2 (room1 hr) rfl (de_var 1) (de_call G__law_next (hr.mono (by decide)) m__law_next k__law_next b__law_next pass0 (da_cons (de_var 0) (da_cons (de_len2 rfl mm_len (da_cons (de_var 1) da_nil)) da_nil))))))
theorem ok__law_place {f : Addr} {fd : FuncData} (D : Fun K "_law_place" "_law_place" s__law_place f fd) {f_read_net : Addr} {fd_read_net : FuncData} (G_read_net : FnOk P w K mg base (L2.CX P w) 9 f_read_net fd_read_net ["text"] (spX K xc g_read_net)) (m_read_net : mg "read_net" = some (.ref f_read_net)) (k_read_net : PySem.W.keepIn K (.ref f_read_net) = true) (b_read_net : Binds K fd_read_net ["text"] []) {C_BadText B_BadText fI_BadText : Addr} (T_BadText : PySem.ExF.Tx_BadText K C_BadText B_BadText fI_BadText) (x_BadText : xc.ex 2 = some (C_BadText, (["line", "column"] : List Str))) (x_BadText_g : mg "BadText" = some (.ref C_BadText)) {C_BadNet B_BadNet fI_BadNet : Addr} (T_BadNet : PySem.ExF.Tx_BadNet K C_BadNet B_BadNet fI_BadNet) (x_BadNet : xc.ex 3 = some (C_BadNet, (["name", "why"] : List Str))) (x_BadNet_g : mg "BadNet" = some (.ref C_BadNet)) (ct_BadText : CatchK K xc (.ref C_BadText) [2]) (ct_BadNet : CatchK K xc (.ref C_BadNet) [3]) : FnOk P w K mg base CX0 10 f fd ["_law_text"] (spX K xc g__law_place) :=
  FnOk.tidy <| def_ok D sc__law_place (by decide) fun cdv A outer s H E H0 as0 O0 hr => by
    have nd := sc__law_place.nd
    exact (ds_cons (ds_tryAs 1 rfl rfl nd rfl rfl ⟨rfl, by decide, .inl x_BadText_g⟩ ⟨rfl, by decide, .inl x_BadNet_g⟩ ct_BadText ct_BadNet takes0 T_BadText.ex x_BadText (by decide) rfl rfl T_BadText.no1 T_BadText.no2 (fun W pn xe tk po => (ds_one (ds_expr (de_callR G_read_net (hr.mono (by decide)) m_read_net k_read_net b_read_net tk (da_cons (de_var 0) da_nil))))) (fun a oe cls d pn hz hf => (ds_one (ds_ret de_str))))
    (ds_one (ds_ret de_non)))
theorem ok_law {f : Addr} {fd : FuncData} (D : Fun K "law" "law" s_law f fd) {f__law_next : Addr} {fd__law_next : FuncData} (G__law_next : FnOk P w K mg base CX0 3 f__law_next fd__law_next ["_law_draw_here", "_law_bound"] (spX K xc g__law_next)) (m__law_next : mg "_law_next" = some (.ref f__law_next)) (k__law_next : PySem.W.keepIn K (.ref f__law_next) = true) (b__law_next : Binds K fd__law_next ["_law_draw_here", "_law_bound"] []) {f__law_place : Addr} {fd__law_place : FuncData} (G__law_place : FnOk P w K mg base CX0 10 f__law_place fd__law_place ["_law_text"] (spX K xc g__law_place)) (m__law_place : mg "_law_place" = some (.ref f__law_place)) (k__law_place : PySem.W.keepIn K (.ref f__law_place) = true) (b__law_place : Binds K fd__law_place ["_law_text"] []) : FnOk P w K mg base CX0 11 f fd ["_law_script"] (spX K xc g_law) :=
  def_ok D sc_law (by decide) fun cdv A outer s H E H0 as0 O0 hr => by
    have nd := sc_law.nd
    exact (ds_cons (ds_setCell 1 nd (da_cons (de_slice rfl (de_var 0) do_none (do_some de_int)) (da_cons de_int (da_cons de_int da_nil))))
    (ds_cons (ds_set 2 nd (de_mul2 rfl de_str (de_add rfl de_int (de_call G__law_next (hr.mono (by decide)) m__law_next k__law_next b__law_next pass0 (da_cons (de_var 1) (da_cons de_int da_nil))))))
    (ds_cons (ds_set 3 nd (de_add rfl (de_add rfl de_str (de_var 2)) de_str))
    (ds_cons (ds_set 4 nd (de_add rfl (de_var 3) de_str))
    (ds_cons (ds_if (dt_isNot (de_call G__law_place (hr.mono (by decide)) m__law_place k__law_place b__law_place pass0 (da_cons (de_var 4) da_nil)) de_non) (ds_one (ds_ret de_bl)) ds_nil)
    (ds_cons (ds_set 5 nd (de_lst (da_cons (de_tup (da_cons de_str (da_cons de_int da_nil))) (da_cons (de_tup (da_cons de_str (da_cons de_int da_nil))) (da_cons (de_tup (da_cons de_str (da_cons de_int da_nil))) (da_cons (de_tup (da_cons de_str (da_cons de_int da_nil))) (da_cons (de_tup (da_cons de_str (da_cons de_int da_nil))) (da_cons (de_tup (da_cons de_str (da_cons de_int da_nil))) (da_cons (de_tup (da_cons de_str (da_cons de_int da_nil))) (da_cons (de_tup (da_cons de_str (da_cons de_int da_nil))) (da_cons (de_tup (da_cons de_str (da_cons de_int da_nil))) (da_cons (de_tup (da_cons de_str (da_cons de_int da_nil))) da_nil))))))))))))
    (ds_cons (ds_set 5 nd (de_add rfl (de_var 5) (de_lst (da_cons (de_tup (da_cons de_str (da_cons de_int da_nil))) (da_cons (de_tup (da_cons de_str (da_cons de_int da_nil))) da_nil)))))
    (ds_cons (ds_set 5 nd (de_add rfl (de_var 5) (de_lst (da_cons (de_tup (da_cons de_str (da_cons de_int da_nil))) (da_cons (de_tup (da_cons de_str (da_cons de_int da_nil))) (da_cons (de_tup (da_cons de_str (da_cons de_int da_nil))) (da_cons (de_tup (da_cons de_str (da_cons de_int da_nil))) (da_cons (de_tup (da_cons de_str (da_cons de_int da_nil))) (da_cons (de_tup (da_cons de_str (da_cons de_int da_nil))) da_nil)))))))))
    (ds_cons (ds_set 5 nd (de_add rfl (de_var 5) (de_lst (da_cons (de_tup (da_cons de_str (da_cons de_int da_nil))) (da_cons (de_tup (da_cons de_str (da_cons de_int da_nil))) da_nil)))))
    (ds_cons (ds_set 5 nd (de_add rfl (de_var 5) (de_lst (da_cons (de_tup (da_cons de_str (da_cons de_int da_nil))) (da_cons (de_tup (da_cons de_str (da_cons de_int da_nil))) (da_cons (de_tup (da_cons de_str (da_cons de_int da_nil))) da_nil))))))
    (ds_cons (ds_set 5 nd (de_add rfl (de_var 5) (de_lst (da_cons (de_tup (da_cons de_str (da_cons de_int da_nil))) (da_cons (de_tup (da_cons de_str (da_cons de_int da_nil))) da_nil)))))
    (ds_cons (ds_set 5 nd (de_add rfl (de_var 5) (de_lst (da_cons (de_tup (da_cons de_str (da_cons de_int da_nil))) (da_cons (de_tup (da_cons de_str (da_cons de_int da_nil))) (da_cons (de_tup (da_cons de_str (da_cons de_int da_nil))) da_nil))))))
    (ds_cons (ds_set 5 nd (de_add rfl (de_var 5) (de_lst (da_cons (de_tup (da_cons de_str (da_cons de_int da_nil))) (da_cons (de_tup (da_cons de_str (da_cons de_int da_nil))) da_nil)))))
    (ds_cons (ds_set 5 nd (de_add rfl (de_var 5) (de_lst (da_cons (de_tup (da_cons de_str (da_cons de_int da_nil))) (da_cons (de_tup (da_cons de_str (da_cons de_int da_nil))) (da_cons (de_tup (da_cons de_str (da_cons de_int da_nil))) da_nil))))))
    (ds_cons (ds_set 5 nd (de_add rfl (de_var 5) (de_lst (da_cons (de_tup (da_cons de_str (da_cons de_int da_nil))) (da_cons (de_tup (da_cons de_str (da_cons de_int da_nil))) (da_cons (de_tup (da_cons de_str (da_cons de_int da_nil))) da_nil))))))
    (ds_cons (ds_for PassesOwn.never rfl (di_seq rfl (de_var 5)) (dg_tup rfl rfl (dgs_cons (dg_name 6 nd) (dgs_cons (dg_name 7 nd) dgs_nil))) (ds_cons (ds_if (dt_ne hr.units rfl (de_call G__law_place (hr.mono (by decide)) m__law_place k__law_place b__law_place pass0 (da_cons (de_add rfl (de_var 3) (de_var 6)) da_nil)) (de_tup (da_cons de_int (da_cons (de_var 7) da_nil)))) (ds_one (ds_ret de_bl)) ds_nil)
    (ds_one (ds_if (dt_ne hr.units rfl (de_call G__law_place (hr.mono (by decide)) m__law_place k__law_place b__law_place pass0 (da_cons (de_add rfl (de_add rfl (de_var 4) de_str) (de_var 6)) da_nil)) (de_tup (da_cons de_int (da_cons (de_if (dt_eq hr.units rfl (de_slice rfl (de_var 6) do_none (do_some de_int)) de_str) de_int (de_add rfl (de_var 7) de_int)) da_nil)))) (ds_one (ds_ret de_bl)) ds_nil))))
    (ds_cons (ds_if (dt_bool (dw_or (dt_ne hr.units rfl (de_call G__law_place (hr.mono (by decide)) m__law_place k__law_place b__law_place pass0 (da_cons (de_add rfl (de_var 4) de_str) da_nil)) (de_tup (da_cons de_int (da_cons de_int da_nil)))) (dw_or1 (dt_ne hr.units rfl (de_call G__law_place (hr.mono (by decide)) m__law_place k__law_place b__law_place pass0 (da_cons (de_var 3) da_nil)) (de_tup (da_cons de_int (da_cons de_int da_nil))))))) (ds_one (ds_ret de_bl)) ds_nil)
    (ds_cons (ds_if (dt_bool (dw_or (dt_ne hr.units rfl (de_call G__law_place (hr.mono (by decide)) m__law_place k__law_place b__law_place pass0 (da_cons de_str da_nil)) (de_tup (da_cons de_int (da_cons de_int da_nil)))) (dw_or (dt_ne hr.units rfl (de_call G__law_place (hr.mono (by decide)) m__law_place k__law_place b__law_place pass0 (da_cons de_non da_nil)) (de_tup (da_cons de_int (da_cons de_int da_nil)))) (dw_or1 (dt_ne hr.units rfl (de_call G__law_place (hr.mono (by decide)) m__law_place k__law_place b__law_place pass0 (da_cons de_int da_nil)) (de_tup (da_cons de_int (da_cons de_int da_nil)))))))) (ds_one (ds_ret de_bl)) ds_nil)
    (ds_one (ds_ret (de_and (de_eq hr.units rfl (de_call G__law_place (hr.mono (by decide)) m__law_place k__law_place b__law_place pass0 (da_cons (de_add rfl (de_var 4) de_str) da_nil)) de_str) (de_and (de_eq hr.units rfl (de_call G__law_place (hr.mono (by decide)) m__law_place k__law_place b__law_place pass0 (da_cons (de_add rfl (de_var 4) de_str) da_nil)) de_str) (de_one (de_eq hr.units rfl (de_call G__law_place (hr.mono (by decide)) m__law_place k__law_place b__law_place pass0 (da_cons (de_add rfl (de_var 4) de_str) da_nil)) de_str))))))))))))))))))))))))
end
theorem exm_by {K : PySem.W.Frag} {S U : Addr} {b : Bool} (h1 : PySem.W.subIn K (.ref S) (.type "BaseException") = some true) (h2 : PySem.W.isClsIn K S = true) (h3 : PySem.W.typeIn K (.ref S) = some (.type "type")) (h4 : PySem.W.subIn K (.ref U) (.ref S) = some b) :
    PySem.W.exmOne K (.ref U) (.ref S) = some b := by
  have e1 : (PySem.W.subIn K (.ref S) (.type "BaseException") == some true) = true := by rw [h1] <;> rfl
  have e2 : ((PySem.W.clsIn K S).isSome && PySem.W.typeIn K (.ref S) == some (.type "type")) = true := by
    have h2' : (PySem.W.clsIn K S).isSome = true := h2
    rw [h2', h3] <;> rfl
  show (if (PySem.W.subIn K (.ref S) (.type "BaseException") == some true) = true then (if ((PySem.W.clsIn K S).isSome && PySem.W.typeIn K (.ref S) == some (.type "type")) = true then PySem.W.subIn K (.ref U) (.ref S) else none) else none) = some b
  rw [if_pos e1, if_pos e2]
  exact h4
theorem all_mk {l : PySem.W.OpenLaw} {w : World} {K : PySem.W.Frag} {h : Heap} {mg : Str → Option Value} {fa : Addr} (X : K.In h) (G : h.Ns mainGlobals mg) (hfa : mg "law" = some (.ref fa))
    {C_LineReader : Addr} (aC_LineReader : PySem.W.nsIn K mainGlobals "LineReader" = some (some (.ref C_LineReader)))
    (pg_LineReader : PySem.W.plainGet K C_LineReader Str.empty = true)
    (hd_LineReader : PySem.W.hasDictIn K C_LineReader = true)
    (po_LineReader : PySem.W.plainOver K C_LineReader = true)
    (sa_LineReader : PySem.W.findIn K (.ref C_LineReader) "__setattr__" = some (some (.builtin "object.__setattr__")))
    (mk_LineReader : PySem.W.makesIn K C_LineReader = true)
    (kc_LineReader : PySem.W.keepIn K (.ref C_LineReader) = true)
    (nf_LineReader_line : PySem.W.findIn K (.ref C_LineReader) "line" = some none)
    (nf_LineReader_number : PySem.W.findIn K (.ref C_LineReader) "number" = some none)
    (nf_LineReader_here : PySem.W.findIn K (.ref C_LineReader) "here" = some none)
    {C_BadText B_BadText fI_BadText : Addr} {nm_BadText q_BadText : Str} {N_BadText : Addr} {bs_BadText : List Value} {sn_BadText : List Str} {sub_BadText : List Value} {ab_BadText : Bool} {col_BadText : Option Bool} {dd_BadText : Option Addr} {m0_BadText m1_BadText m2_BadText m3_BadText m5_BadText : Option Value} {od_BadText an_BadText : Option Addr} {sl_BadText : Array (Option Value)} {oc_BadText kV_BadText dc_BadText pm_BadText cd_BadText ct_BadText : Value}
    (aX_BadText : PySem.W.nsIn K mainGlobals "BadText" = some (some (.ref C_BadText)))
    (xL_BadText : K.lookup C_BadText = some (excClassObj nm_BadText q_BadText C_BadText N_BadText bs_BadText [.ref B_BadText, .type "Exception", .type "BaseException", .type "object"] true sn_BadText sub_BadText ab_BadText col_BadText dd_BadText m0_BadText m1_BadText m2_BadText m3_BadText m5_BadText "Exception.__new__"))
    (xsa_BadText : PySem.W.findIn K (.ref C_BadText) "__setattr__" = some (some (.builtin "object.__setattr__")))
    (xga_BadText : PySem.W.findIn K (.ref C_BadText) "__getattribute__" = some (some (.builtin "BaseException.__getattribute__")))
    (xgg_BadText : PySem.W.findIn K (.ref C_BadText) "__getattr__" = some none)
    (xi_BadText : PySem.W.findIn K (.ref C_BadText) "__init__" = some (some (.ref fI_BadText)))
    (xt_BadText : PySem.W.typeIn K (.ref fI_BadText) = some (.type "function"))
    (xl_BadText : K.lookup fI_BadText = some ⟨oc_BadText, od_BadText, .func (PySem.W.fnOf "__init__" "BadText.__init__" (defArgs s_BadText) (defBody s_BadText) (defScope s_BadText) .none kV_BadText dc_BadText pm_BadText an_BadText cd_BadText ct_BadText), sl_BadText⟩)
    (xc_BadText : PySem.W.codeIn K cd_BadText "BadText.__init__" = true)
    (xk_BadText : PySem.W.keepIn K (.ref C_BadText) = true)
    (xe_BadText : PySem.W.subIn K (.ref C_BadText) (.type "BaseException") = some true)
    (xy_BadText : PySem.W.typeIn K (.ref C_BadText) = some (.type "type"))
    (xh_BadText : PySem.W.hasDictIn K C_BadText = true)
    (xp_BadText : PySem.W.isClsIn K C_BadText = true)
    (xn0_BadText : PySem.W.findIn K (.ref C_BadText) "line" = some none)
    (xn1_BadText : PySem.W.findIn K (.ref C_BadText) "column" = some none)
    {C_BadNet B_BadNet fI_BadNet : Addr} {nm_BadNet q_BadNet : Str} {N_BadNet : Addr} {bs_BadNet : List Value} {sn_BadNet : List Str} {sub_BadNet : List Value} {ab_BadNet : Bool} {col_BadNet : Option Bool} {dd_BadNet : Option Addr} {m0_BadNet m1_BadNet m2_BadNet m3_BadNet m5_BadNet : Option Value} {od_BadNet an_BadNet : Option Addr} {sl_BadNet : Array (Option Value)} {oc_BadNet kV_BadNet dc_BadNet pm_BadNet cd_BadNet ct_BadNet : Value}
    (aX_BadNet : PySem.W.nsIn K mainGlobals "BadNet" = some (some (.ref C_BadNet)))
    (xL_BadNet : K.lookup C_BadNet = some (excClassObj nm_BadNet q_BadNet C_BadNet N_BadNet bs_BadNet [.ref B_BadNet, .type "Exception", .type "BaseException", .type "object"] true sn_BadNet sub_BadNet ab_BadNet col_BadNet dd_BadNet m0_BadNet m1_BadNet m2_BadNet m3_BadNet m5_BadNet "Exception.__new__"))
    (xsa_BadNet : PySem.W.findIn K (.ref C_BadNet) "__setattr__" = some (some (.builtin "object.__setattr__")))
    (xga_BadNet : PySem.W.findIn K (.ref C_BadNet) "__getattribute__" = some (some (.builtin "BaseException.__getattribute__")))
    (xgg_BadNet : PySem.W.findIn K (.ref C_BadNet) "__getattr__" = some none)
    (xi_BadNet : PySem.W.findIn K (.ref C_BadNet) "__init__" = some (some (.ref fI_BadNet)))
    (xt_BadNet : PySem.W.typeIn K (.ref fI_BadNet) = some (.type "function"))
    (xl_BadNet : K.lookup fI_BadNet = some ⟨oc_BadNet, od_BadNet, .func (PySem.W.fnOf "__init__" "BadNet.__init__" (defArgs s_BadNet) (defBody s_BadNet) (defScope s_BadNet) .none kV_BadNet dc_BadNet pm_BadNet an_BadNet cd_BadNet ct_BadNet), sl_BadNet⟩)
    (xc_BadNet : PySem.W.codeIn K cd_BadNet "BadNet.__init__" = true)
    (xk_BadNet : PySem.W.keepIn K (.ref C_BadNet) = true)
    (xe_BadNet : PySem.W.subIn K (.ref C_BadNet) (.type "BaseException") = some true)
    (xy_BadNet : PySem.W.typeIn K (.ref C_BadNet) = some (.type "type"))
    (xh_BadNet : PySem.W.hasDictIn K C_BadNet = true)
    (xp_BadNet : PySem.W.isClsIn K C_BadNet = true)
    (xn0_BadNet : PySem.W.findIn K (.ref C_BadNet) "name" = some none)
    (xn1_BadNet : PySem.W.findIn K (.ref C_BadNet) "why" = some none)
    (xs_BadText_BadText : PySem.W.subIn K (.ref C_BadText) (.ref C_BadText) = some true)
    (xs_BadNet_BadText : PySem.W.subIn K (.ref C_BadNet) (.ref C_BadText) = some false)
    (xs_BadText_BadNet : PySem.W.subIn K (.ref C_BadText) (.ref C_BadNet) = some false)
    (xs_BadNet_BadNet : PySem.W.subIn K (.ref C_BadNet) (.ref C_BadNet) = some true)
    {f0 : Addr} {od0 an0 : Option Addr} {sl0 : Array (Option Value)} {oc0 kV0 dc0 pm0 cd0 ct0 : Value} (a0 : PySem.W.nsIn K mainGlobals "_law_cell_at" = some (some (.ref f0))) (l0 : K.lookup f0 = some ⟨oc0, od0, .func (PySem.W.fnOf "_law_cell_at" "_law_cell_at" (defArgs s__law_cell_at) (defBody s__law_cell_at) (defScope s__law_cell_at) .none kV0 dc0 pm0 an0 cd0 ct0), sl0⟩) (c0 : PySem.W.codeIn K cd0 "_law_cell_at" = true) (k0 : PySem.W.keepIn K (.ref f0) = true)
    {f1 : Addr} {od1 an1 : Option Addr} {sl1 : Array (Option Value)} {oc1 kV1 dc1 pm1 cd1 ct1 : Value} (a1 : PySem.W.nsIn K mainGlobals "_law_draw" = some (some (.ref f1))) (l1 : K.lookup f1 = some ⟨oc1, od1, .func (PySem.W.fnOf "_law_draw" "_law_draw" (defArgs s__law_draw) (defBody s__law_draw) (defScope s__law_draw) .none kV1 dc1 pm1 an1 cd1 ct1), sl1⟩) (c1 : PySem.W.codeIn K cd1 "_law_draw" = true) (k1 : PySem.W.keepIn K (.ref f1) = true)
    {f2 : Addr} {od2 an2 : Option Addr} {sl2 : Array (Option Value)} {oc2 kV2 dc2 pm2 cd2 ct2 : Value} (a2 : PySem.W.nsIn K mainGlobals "_law_number" = some (some (.ref f2))) (l2 : K.lookup f2 = some ⟨oc2, od2, .func (PySem.W.fnOf "_law_number" "_law_number" (defArgs s__law_number) (defBody s__law_number) (defScope s__law_number) .none kV2 dc2 pm2 an2 cd2 ct2), sl2⟩) (c2 : PySem.W.codeIn K cd2 "_law_number" = true) (k2 : PySem.W.keepIn K (.ref f2) = true)
    {f3 : Addr} {od3 an3 : Option Addr} {sl3 : Array (Option Value)} {oc3 kV3 dc3 pm3 cd3 ct3 : Value} (a3 : PySem.W.nsIn K mainGlobals "_law_next" = some (some (.ref f3))) (l3 : K.lookup f3 = some ⟨oc3, od3, .func (PySem.W.fnOf "_law_next" "_law_next" (defArgs s__law_next) (defBody s__law_next) (defScope s__law_next) .none kV3 dc3 pm3 an3 cd3 ct3), sl3⟩) (c3 : PySem.W.codeIn K cd3 "_law_next" = true) (k3 : PySem.W.keepIn K (.ref f3) = true)
    {f4 : Addr} {od4 an4 : Option Addr} {sl4 : Array (Option Value)} {oc4 kV4 dc4 pm4 cd4 ct4 : Value} (a4 : PySem.W.findIn K (.ref C_LineReader) "__init__" = some (some (.ref f4))) (i4 : PySem.W.isFn K (.ref f4) = true) (l4 : K.lookup f4 = some ⟨oc4, od4, .func (PySem.W.fnOf "__init__" "LineReader.__init__" (defArgs s_LineReader___init__) (defBody s_LineReader___init__) (defScope s_LineReader___init__) .none kV4 dc4 pm4 an4 cd4 ct4), sl4⟩) (c4 : PySem.W.codeIn K cd4 "LineReader.__init__" = true) (k4 : PySem.W.keepIn K (.ref f4) = true)
    {f5 : Addr} {od5 an5 : Option Addr} {sl5 : Array (Option Value)} {oc5 kV5 dc5 pm5 cd5 ct5 : Value} (a5 : PySem.W.findIn K (.ref C_LineReader) "skip" = some (some (.ref f5))) (i5 : PySem.W.isFn K (.ref f5) = true) (l5 : K.lookup f5 = some ⟨oc5, od5, .func (PySem.W.fnOf "skip" "LineReader.skip" (defArgs s_LineReader_skip) (defBody s_LineReader_skip) (defScope s_LineReader_skip) .none kV5 dc5 pm5 an5 cd5 ct5), sl5⟩) (c5 : PySem.W.codeIn K cd5 "LineReader.skip" = true) (k5 : PySem.W.keepIn K (.ref f5) = true)
    {f6 : Addr} {od6 an6 : Option Addr} {sl6 : Array (Option Value)} {oc6 kV6 dc6 pm6 cd6 ct6 : Value} (a6 : PySem.W.findIn K (.ref C_LineReader) "is_over" = some (some (.ref f6))) (i6 : PySem.W.isFn K (.ref f6) = true) (l6 : K.lookup f6 = some ⟨oc6, od6, .func (PySem.W.fnOf "is_over" "LineReader.is_over" (defArgs s_LineReader_is_over) (defBody s_LineReader_is_over) (defScope s_LineReader_is_over) .none kV6 dc6 pm6 an6 cd6 ct6), sl6⟩) (c6 : PySem.W.codeIn K cd6 "LineReader.is_over" = true) (k6 : PySem.W.keepIn K (.ref f6) = true)
    {f7 : Addr} {od7 an7 : Option Addr} {sl7 : Array (Option Value)} {oc7 kV7 dc7 pm7 cd7 ct7 : Value} (a7 : PySem.W.findIn K (.ref C_LineReader) "end_of" = some (some (.ref f7))) (i7 : PySem.W.isFn K (.ref f7) = true) (l7 : K.lookup f7 = some ⟨oc7, od7, .func (PySem.W.fnOf "end_of" "LineReader.end_of" (defArgs s_LineReader_end_of) (defBody s_LineReader_end_of) (defScope s_LineReader_end_of) .none kV7 dc7 pm7 an7 cd7 ct7), sl7⟩) (c7 : PySem.W.codeIn K cd7 "LineReader.end_of" = true) (k7 : PySem.W.keepIn K (.ref f7) = true)
    {f8 : Addr} {od8 an8 : Option Addr} {sl8 : Array (Option Value)} {oc8 kV8 dc8 pm8 cd8 ct8 : Value} (a8 : PySem.W.findIn K (.ref C_LineReader) "word" = some (some (.ref f8))) (i8 : PySem.W.isFn K (.ref f8) = true) (l8 : K.lookup f8 = some ⟨oc8, od8, .func (PySem.W.fnOf "word" "LineReader.word" (defArgs s_LineReader_word) (defBody s_LineReader_word) (defScope s_LineReader_word) .none kV8 dc8 pm8 an8 cd8 ct8), sl8⟩) (c8 : PySem.W.codeIn K cd8 "LineReader.word" = true) (k8 : PySem.W.keepIn K (.ref f8) = true)
    {f9 : Addr} {od9 an9 : Option Addr} {sl9 : Array (Option Value)} {oc9 kV9 dc9 pm9 cd9 ct9 : Value} (a9 : PySem.W.findIn K (.ref C_LineReader) "wrong" = some (some (.ref f9))) (i9 : PySem.W.isFn K (.ref f9) = true) (l9 : K.lookup f9 = some ⟨oc9, od9, .func (PySem.W.fnOf "wrong" "LineReader.wrong" (defArgs s_LineReader_wrong) (defBody s_LineReader_wrong) (defScope s_LineReader_wrong) .none kV9 dc9 pm9 an9 cd9 ct9), sl9⟩) (c9 : PySem.W.codeIn K cd9 "LineReader.wrong" = true) (k9 : PySem.W.keepIn K (.ref f9) = true)
    {f10 : Addr} {od10 an10 : Option Addr} {sl10 : Array (Option Value)} {oc10 kV10 dc10 pm10 cd10 ct10 : Value} (a10 : PySem.W.findIn K (.ref C_LineReader) "taken" = some (some (.ref f10))) (i10 : PySem.W.isFn K (.ref f10) = true) (l10 : K.lookup f10 = some ⟨oc10, od10, .func (PySem.W.fnOf "taken" "LineReader.taken" (defArgs s_LineReader_taken) (defBody s_LineReader_taken) (defScope s_LineReader_taken) .none kV10 dc10 pm10 an10 cd10 ct10), sl10⟩) (c10 : PySem.W.codeIn K cd10 "LineReader.taken" = true) (k10 : PySem.W.keepIn K (.ref f10) = true)
    {f11 : Addr} {od11 an11 : Option Addr} {sl11 : Array (Option Value)} {oc11 kV11 dc11 pm11 cd11 ct11 : Value} (a11 : PySem.W.findIn K (.ref C_LineReader) "name_next" = some (some (.ref f11))) (i11 : PySem.W.isFn K (.ref f11) = true) (l11 : K.lookup f11 = some ⟨oc11, od11, .func (PySem.W.fnOf "name_next" "LineReader.name_next" (defArgs s_LineReader_name_next) (defBody s_LineReader_name_next) (defScope s_LineReader_name_next) .none kV11 dc11 pm11 an11 cd11 ct11), sl11⟩) (c11 : PySem.W.codeIn K cd11 "LineReader.name_next" = true) (k11 : PySem.W.keepIn K (.ref f11) = true)
    {f12 : Addr} {od12 an12 : Option Addr} {sl12 : Array (Option Value)} {oc12 kV12 dc12 pm12 cd12 ct12 : Value} (a12 : PySem.W.findIn K (.ref C_LineReader) "apart" = some (some (.ref f12))) (i12 : PySem.W.isFn K (.ref f12) = true) (l12 : K.lookup f12 = some ⟨oc12, od12, .func (PySem.W.fnOf "apart" "LineReader.apart" (defArgs s_LineReader_apart) (defBody s_LineReader_apart) (defScope s_LineReader_apart) .none kV12 dc12 pm12 an12 cd12 ct12), sl12⟩) (c12 : PySem.W.codeIn K cd12 "LineReader.apart" = true) (k12 : PySem.W.keepIn K (.ref f12) = true)
    {f13 : Addr} {od13 an13 : Option Addr} {sl13 : Array (Option Value)} {oc13 kV13 dc13 pm13 cd13 ct13 : Value} (a13 : PySem.W.findIn K (.ref C_LineReader) "number_next" = some (some (.ref f13))) (i13 : PySem.W.isFn K (.ref f13) = true) (l13 : K.lookup f13 = some ⟨oc13, od13, .func (PySem.W.fnOf "number_next" "LineReader.number_next" (defArgs s_LineReader_number_next) (defBody s_LineReader_number_next) (defScope s_LineReader_number_next) .none kV13 dc13 pm13 an13 cd13 ct13), sl13⟩) (c13 : PySem.W.codeIn K cd13 "LineReader.number_next" = true) (k13 : PySem.W.keepIn K (.ref f13) = true)
    {f14 : Addr} {od14 an14 : Option Addr} {sl14 : Array (Option Value)} {oc14 kV14 dc14 pm14 cd14 ct14 : Value} (a14 : PySem.W.findIn K (.ref C_LineReader) "breaker" = some (some (.ref f14))) (i14 : PySem.W.isFn K (.ref f14) = true) (l14 : K.lookup f14 = some ⟨oc14, od14, .func (PySem.W.fnOf "breaker" "LineReader.breaker" (defArgs s_LineReader_breaker) (defBody s_LineReader_breaker) (defScope s_LineReader_breaker) .none kV14 dc14 pm14 an14 cd14 ct14), sl14⟩) (c14 : PySem.W.codeIn K cd14 "LineReader.breaker" = true) (k14 : PySem.W.keepIn K (.ref f14) = true)
    {f15 : Addr} {od15 an15 : Option Addr} {sl15 : Array (Option Value)} {oc15 kV15 dc15 pm15 cd15 ct15 : Value} (a15 : PySem.W.nsIn K mainGlobals "read_breaker" = some (some (.ref f15))) (l15 : K.lookup f15 = some ⟨oc15, od15, .func (PySem.W.fnOf "read_breaker" "read_breaker" (defArgs s_read_breaker) (defBody s_read_breaker) (defScope s_read_breaker) .none kV15 dc15 pm15 an15 cd15 ct15), sl15⟩) (c15 : PySem.W.codeIn K cd15 "read_breaker" = true) (k15 : PySem.W.keepIn K (.ref f15) = true)
    {f16 : Addr} {od16 an16 : Option Addr} {sl16 : Array (Option Value)} {oc16 kV16 dc16 pm16 cd16 ct16 : Value} (a16 : PySem.W.nsIn K mainGlobals "common" = some (some (.ref f16))) (l16 : K.lookup f16 = some ⟨oc16, od16, .func (PySem.W.fnOf "common" "common" (defArgs s_common) (defBody s_common) (defScope s_common) .none kV16 dc16 pm16 an16 cd16 ct16), sl16⟩) (c16 : PySem.W.codeIn K cd16 "common" = true) (k16 : PySem.W.keepIn K (.ref f16) = true)
    {f17 : Addr} {od17 an17 : Option Addr} {sl17 : Array (Option Value)} {oc17 kV17 dc17 pm17 cd17 ct17 : Value} (a17 : PySem.W.nsIn K mainGlobals "frac" = some (some (.ref f17))) (l17 : K.lookup f17 = some ⟨oc17, od17, .func (PySem.W.fnOf "frac" "frac" (defArgs s_frac) (defBody s_frac) (defScope s_frac) .none kV17 dc17 pm17 an17 cd17 ct17), sl17⟩) (c17 : PySem.W.codeIn K cd17 "frac" = true) (k17 : PySem.W.keepIn K (.ref f17) = true)
    {f18 : Addr} {od18 an18 : Option Addr} {sl18 : Array (Option Value)} {oc18 kV18 dc18 pm18 cd18 ct18 : Value} (a18 : PySem.W.findIn K (.ref C_LineReader) "fraction" = some (some (.ref f18))) (i18 : PySem.W.isFn K (.ref f18) = true) (l18 : K.lookup f18 = some ⟨oc18, od18, .func (PySem.W.fnOf "fraction" "LineReader.fraction" (defArgs s_LineReader_fraction) (defBody s_LineReader_fraction) (defScope s_LineReader_fraction) .none kV18 dc18 pm18 an18 cd18 ct18), sl18⟩) (c18 : PySem.W.codeIn K cd18 "LineReader.fraction" = true) (k18 : PySem.W.keepIn K (.ref f18) = true)
    {f19 : Addr} {od19 an19 : Option Addr} {sl19 : Array (Option Value)} {oc19 kV19 dc19 pm19 cd19 ct19 : Value} (a19 : PySem.W.findIn K (.ref C_LineReader) "want" = some (some (.ref f19))) (i19 : PySem.W.isFn K (.ref f19) = true) (l19 : K.lookup f19 = some ⟨oc19, od19, .func (PySem.W.fnOf "want" "LineReader.want" (defArgs s_LineReader_want) (defBody s_LineReader_want) (defScope s_LineReader_want) .none kV19 dc19 pm19 an19 cd19 ct19), sl19⟩) (c19 : PySem.W.codeIn K cd19 "LineReader.want" = true) (k19 : PySem.W.keepIn K (.ref f19) = true)
    {f20 : Addr} {od20 an20 : Option Addr} {sl20 : Array (Option Value)} {oc20 kV20 dc20 pm20 cd20 ct20 : Value} (a20 : PySem.W.nsIn K mainGlobals "read_told" = some (some (.ref f20))) (l20 : K.lookup f20 = some ⟨oc20, od20, .func (PySem.W.fnOf "read_told" "read_told" (defArgs s_read_told) (defBody s_read_told) (defScope s_read_told) .none kV20 dc20 pm20 an20 cd20 ct20), sl20⟩) (c20 : PySem.W.codeIn K cd20 "read_told" = true) (k20 : PySem.W.keepIn K (.ref f20) = true)
    {f21 : Addr} {od21 an21 : Option Addr} {sl21 : Array (Option Value)} {oc21 kV21 dc21 pm21 cd21 ct21 : Value} (a21 : PySem.W.nsIn K mainGlobals "read_guard" = some (some (.ref f21))) (l21 : K.lookup f21 = some ⟨oc21, od21, .func (PySem.W.fnOf "read_guard" "read_guard" (defArgs s_read_guard) (defBody s_read_guard) (defScope s_read_guard) .none kV21 dc21 pm21 an21 cd21 ct21), sl21⟩) (c21 : PySem.W.codeIn K cd21 "read_guard" = true) (k21 : PySem.W.keepIn K (.ref f21) = true)
    {f22 : Addr} {od22 an22 : Option Addr} {sl22 : Array (Option Value)} {oc22 kV22 dc22 pm22 cd22 ct22 : Value} (a22 : PySem.W.nsIn K mainGlobals "read_line" = some (some (.ref f22))) (l22 : K.lookup f22 = some ⟨oc22, od22, .func (PySem.W.fnOf "read_line" "read_line" (defArgs s_read_line) (defBody s_read_line) (defScope s_read_line) .none kV22 dc22 pm22 an22 cd22 ct22), sl22⟩) (c22 : PySem.W.codeIn K cd22 "read_line" = true) (k22 : PySem.W.keepIn K (.ref f22) = true)
    {f23 : Addr} {od23 an23 : Option Addr} {sl23 : Array (Option Value)} {oc23 kV23 dc23 pm23 cd23 ct23 : Value} (a23 : PySem.W.nsIn K mainGlobals "check" = some (some (.ref f23))) (l23 : K.lookup f23 = some ⟨oc23, od23, .func (PySem.W.fnOf "check" "check" (defArgs s_check) (defBody s_check) (defScope s_check) .none kV23 dc23 pm23 an23 cd23 ct23), sl23⟩) (c23 : PySem.W.codeIn K cd23 "check" = true) (k23 : PySem.W.keepIn K (.ref f23) = true)
    {f24 : Addr} {od24 an24 : Option Addr} {sl24 : Array (Option Value)} {oc24 kV24 dc24 pm24 cd24 ct24 : Value} (a24 : PySem.W.nsIn K mainGlobals "is_name" = some (some (.ref f24))) (l24 : K.lookup f24 = some ⟨oc24, od24, .func (PySem.W.fnOf "is_name" "is_name" (defArgs s_is_name) (defBody s_is_name) (defScope s_is_name) .none kV24 dc24 pm24 an24 cd24 ct24), sl24⟩) (c24 : PySem.W.codeIn K cd24 "is_name" = true) (k24 : PySem.W.keepIn K (.ref f24) = true)
    {f25 : Addr} {od25 an25 : Option Addr} {sl25 : Array (Option Value)} {oc25 kV25 dc25 pm25 cd25 ct25 : Value} (a25 : PySem.W.nsIn K mainGlobals "is_whole" = some (some (.ref f25))) (l25 : K.lookup f25 = some ⟨oc25, od25, .func (PySem.W.fnOf "is_whole" "is_whole" (defArgs s_is_whole) (defBody s_is_whole) (defScope s_is_whole) .none kV25 dc25 pm25 an25 cd25 ct25), sl25⟩) (c25 : PySem.W.codeIn K cd25 "is_whole" = true) (k25 : PySem.W.keepIn K (.ref f25) = true)
    {f26 : Addr} {od26 an26 : Option Addr} {sl26 : Array (Option Value)} {oc26 kV26 dc26 pm26 cd26 ct26 : Value} (a26 : PySem.W.nsIn K mainGlobals "check_lists" = some (some (.ref f26))) (l26 : K.lookup f26 = some ⟨oc26, od26, .func (PySem.W.fnOf "check_lists" "check_lists" (defArgs s_check_lists) (defBody s_check_lists) (defScope s_check_lists) .none kV26 dc26 pm26 an26 cd26 ct26), sl26⟩) (c26 : PySem.W.codeIn K cd26 "check_lists" = true) (k26 : PySem.W.keepIn K (.ref f26) = true)
    {f27 : Addr} {od27 an27 : Option Addr} {sl27 : Array (Option Value)} {oc27 kV27 dc27 pm27 cd27 ct27 : Value} (a27 : PySem.W.nsIn K mainGlobals "breakers_of" = some (some (.ref f27))) (l27 : K.lookup f27 = some ⟨oc27, od27, .func (PySem.W.fnOf "breakers_of" "breakers_of" (defArgs s_breakers_of) (defBody s_breakers_of) (defScope s_breakers_of) .none kV27 dc27 pm27 an27 cd27 ct27), sl27⟩) (c27 : PySem.W.codeIn K cd27 "breakers_of" = true) (k27 : PySem.W.keepIn K (.ref f27) = true)
    {f28 : Addr} {od28 an28 : Option Addr} {sl28 : Array (Option Value)} {oc28 kV28 dc28 pm28 cd28 ct28 : Value} (a28 : PySem.W.nsIn K mainGlobals "is_frac" = some (some (.ref f28))) (l28 : K.lookup f28 = some ⟨oc28, od28, .func (PySem.W.fnOf "is_frac" "is_frac" (defArgs s_is_frac) (defBody s_is_frac) (defScope s_is_frac) .none kV28 dc28 pm28 an28 cd28 ct28), sl28⟩) (c28 : PySem.W.codeIn K cd28 "is_frac" = true) (k28 : PySem.W.keepIn K (.ref f28) = true)
    {f29 : Addr} {od29 an29 : Option Addr} {sl29 : Array (Option Value)} {oc29 kV29 dc29 pm29 cd29 ct29 : Value} (a29 : PySem.W.nsIn K mainGlobals "is_above" = some (some (.ref f29))) (l29 : K.lookup f29 = some ⟨oc29, od29, .func (PySem.W.fnOf "is_above" "is_above" (defArgs s_is_above) (defBody s_is_above) (defScope s_is_above) .none kV29 dc29 pm29 an29 cd29 ct29), sl29⟩) (c29 : PySem.W.codeIn K cd29 "is_above" = true) (k29 : PySem.W.keepIn K (.ref f29) = true)
    {f30 : Addr} {od30 an30 : Option Addr} {sl30 : Array (Option Value)} {oc30 kV30 dc30 pm30 cd30 ct30 : Value} (a30 : PySem.W.nsIn K mainGlobals "is_told" = some (some (.ref f30))) (l30 : K.lookup f30 = some ⟨oc30, od30, .func (PySem.W.fnOf "is_told" "is_told" (defArgs s_is_told) (defBody s_is_told) (defScope s_is_told) .none kV30 dc30 pm30 an30 cd30 ct30), sl30⟩) (c30 : PySem.W.codeIn K cd30 "is_told" = true) (k30 : PySem.W.keepIn K (.ref f30) = true)
    {f31 : Addr} {od31 an31 : Option Addr} {sl31 : Array (Option Value)} {oc31 kV31 dc31 pm31 cd31 ct31 : Value} (a31 : PySem.W.nsIn K mainGlobals "sign_of" = some (some (.ref f31))) (l31 : K.lookup f31 = some ⟨oc31, od31, .func (PySem.W.fnOf "sign_of" "sign_of" (defArgs s_sign_of) (defBody s_sign_of) (defScope s_sign_of) .none kV31 dc31 pm31 an31 cd31 ct31), sl31⟩) (c31 : PySem.W.codeIn K cd31 "sign_of" = true) (k31 : PySem.W.keepIn K (.ref f31) = true)
    {f32 : Addr} {od32 an32 : Option Addr} {sl32 : Array (Option Value)} {oc32 kV32 dc32 pm32 cd32 ct32 : Value} (a32 : PySem.W.nsIn K mainGlobals "compare" = some (some (.ref f32))) (l32 : K.lookup f32 = some ⟨oc32, od32, .func (PySem.W.fnOf "compare" "compare" (defArgs s_compare) (defBody s_compare) (defScope s_compare) .none kV32 dc32 pm32 an32 cd32 ct32), sl32⟩) (c32 : PySem.W.codeIn K cd32 "compare" = true) (k32 : PySem.W.keepIn K (.ref f32) = true)
    {f33 : Addr} {od33 an33 : Option Addr} {sl33 : Array (Option Value)} {oc33 kV33 dc33 pm33 cd33 ct33 : Value} (a33 : PySem.W.nsIn K mainGlobals "is_rules" = some (some (.ref f33))) (l33 : K.lookup f33 = some ⟨oc33, od33, .func (PySem.W.fnOf "is_rules" "is_rules" (defArgs s_is_rules) (defBody s_is_rules) (defScope s_is_rules) .none kV33 dc33 pm33 an33 cd33 ct33), sl33⟩) (c33 : PySem.W.codeIn K cd33 "is_rules" = true) (k33 : PySem.W.keepIn K (.ref f33) = true)
    {f34 : Addr} {od34 an34 : Option Addr} {sl34 : Array (Option Value)} {oc34 kV34 dc34 pm34 cd34 ct34 : Value} (a34 : PySem.W.nsIn K mainGlobals "check_net" = some (some (.ref f34))) (l34 : K.lookup f34 = some ⟨oc34, od34, .func (PySem.W.fnOf "check_net" "check_net" (defArgs s_check_net) (defBody s_check_net) (defScope s_check_net) .none kV34 dc34 pm34 an34 cd34 ct34), sl34⟩) (c34 : PySem.W.codeIn K cd34 "check_net" = true) (k34 : PySem.W.keepIn K (.ref f34) = true)
    {f35 : Addr} {od35 an35 : Option Addr} {sl35 : Array (Option Value)} {oc35 kV35 dc35 pm35 cd35 ct35 : Value} (a35 : PySem.W.nsIn K mainGlobals "read_net" = some (some (.ref f35))) (l35 : K.lookup f35 = some ⟨oc35, od35, .func (PySem.W.fnOf "read_net" "read_net" (defArgs s_read_net) (defBody s_read_net) (defScope s_read_net) .none kV35 dc35 pm35 an35 cd35 ct35), sl35⟩) (c35 : PySem.W.codeIn K cd35 "read_net" = true) (k35 : PySem.W.keepIn K (.ref f35) = true)
    {f36 : Addr} {od36 an36 : Option Addr} {sl36 : Array (Option Value)} {oc36 kV36 dc36 pm36 cd36 ct36 : Value} (a36 : PySem.W.nsIn K mainGlobals "_law_place" = some (some (.ref f36))) (l36 : K.lookup f36 = some ⟨oc36, od36, .func (PySem.W.fnOf "_law_place" "_law_place" (defArgs s__law_place) (defBody s__law_place) (defScope s__law_place) .none kV36 dc36 pm36 an36 cd36 ct36), sl36⟩) (c36 : PySem.W.codeIn K cd36 "_law_place" = true) (k36 : PySem.W.keepIn K (.ref f36) = true)
    {f37 : Addr} {od37 an37 : Option Addr} {sl37 : Array (Option Value)} {oc37 kV37 dc37 pm37 cd37 ct37 : Value} (a37 : PySem.W.nsIn K mainGlobals "law" = some (some (.ref f37))) (l37 : K.lookup f37 = some ⟨oc37, od37, .func (PySem.W.fnOf "law" "law" (defArgs s_law) (defBody s_law) (defScope s_law) .none kV37 dc37 pm37 an37 cd37 ct37), sl37⟩) (c37 : PySem.W.codeIn K cd37 "law" = true) (k37 : PySem.W.keepIn K (.ref f37) = true)
    (z_abs : PySem.W.nsIn K mainGlobals "abs" = some none)
    (z_all : PySem.W.nsIn K mainGlobals "all" = some none)
    (z_bool : PySem.W.nsIn K mainGlobals "bool" = some none)
    (z_enumerate : PySem.W.nsIn K mainGlobals "enumerate" = some none)
    (z_int : PySem.W.nsIn K mainGlobals "int" = some none)
    (z_isinstance : PySem.W.nsIn K mainGlobals "isinstance" = some none)
    (z_len : PySem.W.nsIn K mainGlobals "len" = some none)
    (z_range : PySem.W.nsIn K mainGlobals "range" = some none)
    (z_sorted : PySem.W.nsIn K mainGlobals "sorted" = some none)
    (z_str : PySem.W.nsIn K mainGlobals "str" = some none)
    (z_tuple : PySem.W.nsIn K mainGlobals "tuple" = some none)
    (z_zip : PySem.W.nsIn K mainGlobals "zip" = some none)
    {uFIGURESt}
    (g_FIGURES : PySem.W.nsIn K mainGlobals "FIGURES" = some (some (.str "0123456789" uFIGURESt)))
    {uLETTERSt}
    (g_LETTERS : PySem.W.nsIn K mainGlobals "LETTERS" = some (some (.str "abcdefghijklmnopqrstuvwxyz0123456789" uLETTERSt)))
    {uMOST_AGEt}
    (g_MOST_AGE : PySem.W.nsIn K mainGlobals "MOST_AGE" = some (some (.int 6 uMOST_AGEt)))
    {uMOST_BUSESt}
    (g_MOST_BUSES : PySem.W.nsIn K mainGlobals "MOST_BUSES" = some (some (.int 6 uMOST_BUSESt)))
    {uMOST_DELAYt}
    (g_MOST_DELAY : PySem.W.nsIn K mainGlobals "MOST_DELAY" = some (some (.int 20 uMOST_DELAYt)))
    {uMOST_FIGURESt}
    (g_MOST_FIGURES : PySem.W.nsIn K mainGlobals "MOST_FIGURES" = some (some (.int 4 uMOST_FIGURESt)))
    {uMOST_GUARDSt}
    (g_MOST_GUARDS : PySem.W.nsIn K mainGlobals "MOST_GUARDS" = some (some (.int 16 uMOST_GUARDSt)))
    {uMOST_LINESt}
    (g_MOST_LINES : PySem.W.nsIn K mainGlobals "MOST_LINES" = some (some (.int 8 uMOST_LINESt)))
    {uMOST_SOURCESt}
    (g_MOST_SOURCES : PySem.W.nsIn K mainGlobals "MOST_SOURCES" = some (some (.int 3 uMOST_SOURCESt)))
    {uMOST_TICKSt}
    (g_MOST_TICKS : PySem.W.nsIn K mainGlobals "MOST_TICKS" = some (some (.int 40 uMOST_TICKSt)))
    {uMOST_Xt}
    (g_MOST_X : PySem.W.nsIn K mainGlobals "MOST_X" = some (some (.int 1000 uMOST_Xt)))
    {uWORDS_0t}
    {uWORDS_1t}
    {uWORDS_2t}
    {uWORDS_3t}
    {uWORDS_4t}
    {uWORDS_5t}
    {uWORDS_6t}
    {uWORDS_7t}
    {uWORDS_8t}
    {uWORDS_9t}
    {uWORDS_10t}
    {uWORDS_11t}
    {uWORDS_12t}
    {uWORDS_13t}
    {uWORDSa : Addr}
    {uWORDSod : Option Addr}
    {uWORDSn : Nat}
    {uWORDSsl : Array (Option Value)}
    (g_WORDS : PySem.W.nsIn K mainGlobals "WORDS" = some (some (.ref uWORDSa)))
    (luWORDS : K.lookup uWORDSa = some ⟨.type "tuple", uWORDSod, .seq [(.str "bus" uWORDS_0t), (.str "line" uWORDS_1t), (.str "source" uWORDS_2t), (.str "guard" uWORDS_3t), (.str "error" uWORDS_4t), (.str "breaker" uWORDS_5t), (.str "ticks" uWORDS_6t), (.str "over" uWORDS_7t), (.str "reach" uWORDS_8t), (.str "difference" uWORDS_9t), (.str "behind" uWORDS_10t), (.str "forward" uWORDS_11t), (.str "delay" uWORDS_12t), (.str "opens" uWORDS_13t)].toArray uWORDSn, uWORDSsl⟩) :
    ∃ (fd : FuncData) (xc : Xc), (∀ (s : Shared) (v : Value), BindsTo s fd ⟨[v], []⟩ [("_law_script", v)]) ∧ ∀ base : Heap, K.In base → base.Ns mainGlobals mg → FnOk l.prog w K mg base CX0 11 fa fd ["_law_script"] (spX K xc g_law) := by
  have e := hfa.symm.trans (PySem.W.mg_of X G a37)
  cases e
  refine ⟨PySem.W.fnOf "law" "law" (defArgs s_law) (defBody s_law) (defScope s_law) .none kV37 dc37 pm37 an37 cd37 ct37, (⟨fun i => if i = 2 then some (C_BadText, ["line", "column"]) else if i = 3 then some (C_BadNet, ["name", "why"]) else none, fun i => if i = 1 then some (C_LineReader, ["line", "number", "here"]) else none⟩ : Xc), fun s v => .of_eq rfl, fun base _ _ => ?_⟩
  generalize hxc : (⟨fun i => if i = 2 then some (C_BadText, ["line", "column"]) else if i = 3 then some (C_BadNet, ["name", "why"]) else none, fun i => if i = 1 then some (C_LineReader, ["line", "number", "here"]) else none⟩ : Xc) = xc
  have O_LineReader : ObK K xc 1 C_LineReader ["line", "number", "here"] := ⟨by rw [← hxc]; rfl, by decide, ⟨pg_LineReader, hd_LineReader, po_LineReader, sa_LineReader⟩, fun f hf => by
    simp only [List.mem_cons, List.not_mem_nil, or_false] at hf
    rcases hf with rfl | rfl | rfl
    · exact nf_LineReader_line
    · exact nf_LineReader_number
    · exact nf_LineReader_here, by decide⟩
  have mg_LineReader := PySem.W.mg_of X G aC_LineReader
  have T_BadText : PySem.ExF.Tx_BadText K C_BadText B_BadText fI_BadText := ⟨⟨⟨_, _, _, _, _, _, _, _, _, _, _, _, _, _, xL_BadText⟩, xsa_BadText, xga_BadText, xgg_BadText, xi_BadText, xt_BadText, xk_BadText, xe_BadText, xy_BadText, xh_BadText⟩, xn0_BadText, xn1_BadText, ⟨_, _, _, _, _, _, _, _, _, xl_BadText, xc_BadText⟩⟩
  have x_BadText : xc.ex 2 = some (C_BadText, (["line", "column"] : List Str)) := by rw [← hxc]; rfl
  have x_BadText_g := PySem.W.mg_of X G aX_BadText
  have T_BadNet : PySem.ExF.Tx_BadNet K C_BadNet B_BadNet fI_BadNet := ⟨⟨⟨_, _, _, _, _, _, _, _, _, _, _, _, _, _, xL_BadNet⟩, xsa_BadNet, xga_BadNet, xgg_BadNet, xi_BadNet, xt_BadNet, xk_BadNet, xe_BadNet, xy_BadNet, xh_BadNet⟩, xn0_BadNet, xn1_BadNet, ⟨_, _, _, _, _, _, _, _, _, xl_BadNet, xc_BadNet⟩⟩
  have x_BadNet : xc.ex 3 = some (C_BadNet, (["name", "why"] : List Str)) := by rw [← hxc]; rfl
  have x_BadNet_g := PySem.W.mg_of X G aX_BadNet
  have ct_BadText : CatchK K xc (.ref C_BadText) [2] := fun id C fns h => by
    rw [← hxc] at h
    dsimp only at h
    by_cases e2 : id = 2
    · subst e2
      simp at h
      obtain ⟨rfl, _⟩ := h
      exact (exm_by xe_BadText xp_BadText xy_BadText xs_BadText_BadText)
    rw [if_neg e2] at h
    by_cases e3 : id = 3
    · subst e3
      simp at h
      obtain ⟨rfl, _⟩ := h
      exact (exm_by xe_BadText xp_BadText xy_BadText xs_BadNet_BadText)
    rw [if_neg e3] at h
    cases h
  have ct_BadNet : CatchK K xc (.ref C_BadNet) [3] := fun id C fns h => by
    rw [← hxc] at h
    dsimp only at h
    by_cases e2 : id = 2
    · subst e2
      simp at h
      obtain ⟨rfl, _⟩ := h
      exact (exm_by xe_BadNet xp_BadNet xy_BadNet xs_BadText_BadNet)
    rw [if_neg e2] at h
    by_cases e3 : id = 3
    · subst e3
      simp at h
      obtain ⟨rfl, _⟩ := h
      exact (exm_by xe_BadNet xp_BadNet xy_BadNet xs_BadNet_BadNet)
    rw [if_neg e3] at h
    cases h
  have t_FIGURES : Top K mg "FIGURES" (.str "0123456789") := ⟨_, PySem.W.mg_of X G g_FIGURES, wr_str⟩
  have t_LETTERS : Top K mg "LETTERS" (.str "abcdefghijklmnopqrstuvwxyz0123456789") := ⟨_, PySem.W.mg_of X G g_LETTERS, wr_str⟩
  have t_MOST_AGE : Top K mg "MOST_AGE" (.int 6) := ⟨_, PySem.W.mg_of X G g_MOST_AGE, wr_int⟩
  have t_MOST_BUSES : Top K mg "MOST_BUSES" (.int 6) := ⟨_, PySem.W.mg_of X G g_MOST_BUSES, wr_int⟩
  have t_MOST_DELAY : Top K mg "MOST_DELAY" (.int 20) := ⟨_, PySem.W.mg_of X G g_MOST_DELAY, wr_int⟩
  have t_MOST_FIGURES : Top K mg "MOST_FIGURES" (.int 4) := ⟨_, PySem.W.mg_of X G g_MOST_FIGURES, wr_int⟩
  have t_MOST_GUARDS : Top K mg "MOST_GUARDS" (.int 16) := ⟨_, PySem.W.mg_of X G g_MOST_GUARDS, wr_int⟩
  have t_MOST_LINES : Top K mg "MOST_LINES" (.int 8) := ⟨_, PySem.W.mg_of X G g_MOST_LINES, wr_int⟩
  have t_MOST_SOURCES : Top K mg "MOST_SOURCES" (.int 3) := ⟨_, PySem.W.mg_of X G g_MOST_SOURCES, wr_int⟩
  have t_MOST_TICKS : Top K mg "MOST_TICKS" (.int 40) := ⟨_, PySem.W.mg_of X G g_MOST_TICKS, wr_int⟩
  have t_MOST_X : Top K mg "MOST_X" (.int 1000) := ⟨_, PySem.W.mg_of X G g_MOST_X, wr_int⟩
  have t_WORDS : Top K mg "WORDS" (.tuple [(.str "bus"), (.str "line"), (.str "source"), (.str "guard"), (.str "error"), (.str "breaker"), (.str "ticks"), (.str "over"), (.str "reach"), (.str "difference"), (.str "behind"), (.str "forward"), (.str "delay"), (.str "opens")]) := ⟨_, PySem.W.mg_of X G g_WORDS, (wr_tup luWORDS (wr_cons wr_str (wr_cons wr_str (wr_cons wr_str (wr_cons wr_str (wr_cons wr_str (wr_cons wr_str (wr_cons wr_str (wr_cons wr_str (wr_cons wr_str (wr_cons wr_str (wr_cons wr_str (wr_cons wr_str (wr_cons wr_str (wr_cons wr_str wr_nil)))))))))))))))⟩
  have D0 := fun_mk (st := s__law_cell_at) l0 c0 k0
  have m0 := PySem.W.mg_of X G a0
  have b0 := D0.binds (ps := ["_law_script", "_law_k"]) fun _ _ _ _ _ _ us hl => match us, hl with | [_, _], _ => rfl
  have D1 := fun_mk (st := s__law_draw) l1 c1 k1
  have m1 := PySem.W.mg_of X G a1
  have b1 := D1.binds (ps := ["_law_cell", "_law_k", "_law_bound"]) fun _ _ _ _ _ _ us hl => match us, hl with | [_, _, _], _ => rfl
  have D2 := fun_mk (st := s__law_number) l2 c2 k2
  have m2 := PySem.W.mg_of X G a2
  have b2 := D2.binds (ps := ["_law_cell", "_law_k", "_law_bound"]) fun _ _ _ _ _ _ us hl => match us, hl with | [_, _, _], _ => rfl
  have D3 := fun_mk (st := s__law_next) l3 c3 k3
  have m3 := PySem.W.mg_of X G a3
  have b3 := D3.binds (ps := ["_law_draw_here", "_law_bound"]) fun _ _ _ _ _ _ us hl => match us, hl with | [_, _], _ => rfl
  have D4 := fun_mk (st := s_LineReader___init__) l4 c4 k4
  have b4 := D4.binds (ps := ["self", "line", "number"]) fun _ _ _ _ _ _ us hl => match us, hl with | [_, _, _], _ => rfl
  have D5 := fun_mk (st := s_LineReader_skip) l5 c5 k5
  have b5 := D5.binds (ps := ["self"]) fun _ _ _ _ _ _ us hl => match us, hl with | [_], _ => rfl
  have D6 := fun_mk (st := s_LineReader_is_over) l6 c6 k6
  have b6 := D6.binds (ps := ["self"]) fun _ _ _ _ _ _ us hl => match us, hl with | [_], _ => rfl
  have D7 := fun_mk (st := s_LineReader_end_of) l7 c7 k7
  have b7 := D7.binds (ps := ["self", "signs"]) fun _ _ _ _ _ _ us hl => match us, hl with | [_, _], _ => rfl
  have D8 := fun_mk (st := s_LineReader_word) l8 c8 k8
  have b8 := D8.binds (ps := ["self"]) fun _ _ _ _ _ _ us hl => match us, hl with | [_], _ => rfl
  have D9 := fun_mk (st := s_LineReader_wrong) l9 c9 k9
  have b9 := D9.binds (ps := ["self"]) fun _ _ _ _ _ _ us hl => match us, hl with | [_], _ => rfl
  have D10 := fun_mk (st := s_LineReader_taken) l10 c10 k10
  have b10 := D10.binds (ps := ["self", "word"]) fun _ _ _ _ _ _ us hl => match us, hl with | [_, _], _ => rfl
  have D11 := fun_mk (st := s_LineReader_name_next) l11 c11 k11
  have b11 := D11.binds (ps := ["self"]) fun _ _ _ _ _ _ us hl => match us, hl with | [_], _ => rfl
  have D12 := fun_mk (st := s_LineReader_apart) l12 c12 k12
  have b12 := D12.binds (ps := ["self", "found"]) fun _ _ _ _ _ _ us hl => match us, hl with | [_, _], _ => rfl
  have D13 := fun_mk (st := s_LineReader_number_next) l13 c13 k13
  have b13 := D13.binds (ps := ["self"]) fun _ _ _ _ _ _ us hl => match us, hl with | [_], _ => rfl
  have D14 := fun_mk (st := s_LineReader_breaker) l14 c14 k14
  have b14 := D14.binds (ps := ["self"]) fun _ _ _ _ _ _ us hl => match us, hl with | [_], _ => rfl
  have D15 := fun_mk (st := s_read_breaker) l15 c15 k15
  have m15 := PySem.W.mg_of X G a15
  have b15 := D15.binds (ps := ["reader", "lines"]) fun _ _ _ _ _ _ us hl => match us, hl with | [_, _], _ => rfl
  have D16 := fun_mk (st := s_common) l16 c16 k16
  have m16 := PySem.W.mg_of X G a16
  have b16 := D16.binds (ps := ["a", "b"]) fun _ _ _ _ _ _ us hl => match us, hl with | [_, _], _ => rfl
  have D17 := fun_mk (st := s_frac) l17 c17 k17
  have m17 := PySem.W.mg_of X G a17
  have b17 := D17.binds (ps := ["n", "d"]) fun _ _ _ _ _ _ us hl => match us, hl with | [_, _], _ => rfl
  have D18 := fun_mk (st := s_LineReader_fraction) l18 c18 k18
  have b18 := D18.binds (ps := ["self"]) fun _ _ _ _ _ _ us hl => match us, hl with | [_], _ => rfl
  have D19 := fun_mk (st := s_LineReader_want) l19 c19 k19
  have b19 := D19.binds (ps := ["self", "word"]) fun _ _ _ _ _ _ us hl => match us, hl with | [_, _], _ => rfl
  have D20 := fun_mk (st := s_read_told) l20 c20 k20
  have m20 := PySem.W.mg_of X G a20
  have b20 := D20.binds (ps := ["reader", "lines"]) fun _ _ _ _ _ _ us hl => match us, hl with | [_, _], _ => rfl
  have D21 := fun_mk (st := s_read_guard) l21 c21 k21
  have m21 := PySem.W.mg_of X G a21
  have b21 := D21.binds (ps := ["reader", "lines"]) fun _ _ _ _ _ _ us hl => match us, hl with | [_, _], _ => rfl
  have D22 := fun_mk (st := s_read_line) l22 c22 k22
  have m22 := PySem.W.mg_of X G a22
  have b22 := D22.binds (ps := ["reader", "found"]) fun _ _ _ _ _ _ us hl => match us, hl with | [_, _], _ => rfl
  have D23 := fun_mk (st := s_check) l23 c23 k23
  have m23 := PySem.W.mg_of X G a23
  have b23 := D23.binds (ps := ["is_right", "name", "why"]) fun _ _ _ _ _ _ us hl => match us, hl with | [_, _, _], _ => rfl
  have D24 := fun_mk (st := s_is_name) l24 c24 k24
  have m24 := PySem.W.mg_of X G a24
  have b24 := D24.binds (ps := ["thing"]) fun _ _ _ _ _ _ us hl => match us, hl with | [_], _ => rfl
  have D25 := fun_mk (st := s_is_whole) l25 c25 k25
  have m25 := PySem.W.mg_of X G a25
  have b25 := D25.binds (ps := ["thing", "least", "most"]) fun _ _ _ _ _ _ us hl => match us, hl with | [_, _, _], _ => rfl
  have D26 := fun_mk (st := s_check_lists) l26 c26 k26
  have m26 := PySem.W.mg_of X G a26
  have b26 := D26.binds (ps := ["net"]) fun _ _ _ _ _ _ us hl => match us, hl with | [_], _ => rfl
  have D27 := fun_mk (st := s_breakers_of) l27 c27 k27
  have m27 := PySem.W.mg_of X G a27
  have b27 := D27.binds (ps := ["net"]) fun _ _ _ _ _ _ us hl => match us, hl with | [_], _ => rfl
  have D28 := fun_mk (st := s_is_frac) l28 c28 k28
  have m28 := PySem.W.mg_of X G a28
  have b28 := D28.binds (ps := ["thing"]) fun _ _ _ _ _ _ us hl => match us, hl with | [_], _ => rfl
  have D29 := fun_mk (st := s_is_above) l29 c29 k29
  have m29 := PySem.W.mg_of X G a29
  have b29 := D29.binds (ps := ["thing"]) fun _ _ _ _ _ _ us hl => match us, hl with | [_], _ => rfl
  have D30 := fun_mk (st := s_is_told) l30 c30 k30
  have m30 := PySem.W.mg_of X G a30
  have b30 := D30.binds (ps := ["told", "breakers", "parts"]) fun _ _ _ _ _ _ us hl => match us, hl with | [_, _, _], _ => rfl
  have D31 := fun_mk (st := s_sign_of) l31 c31 k31
  have m31 := PySem.W.mg_of X G a31
  have b31 := D31.binds (ps := ["number"]) fun _ _ _ _ _ _ us hl => match us, hl with | [_], _ => rfl
  have D32 := fun_mk (st := s_compare) l32 c32 k32
  have m32 := PySem.W.mg_of X G a32
  have b32 := D32.binds (ps := ["a", "b"]) fun _ _ _ _ _ _ us hl => match us, hl with | [_, _], _ => rfl
  have D33 := fun_mk (st := s_is_rules) l33 c33 k33
  have m33 := PySem.W.mg_of X G a33
  have b33 := D33.binds (ps := ["rules"]) fun _ _ _ _ _ _ us hl => match us, hl with | [_], _ => rfl
  have D34 := fun_mk (st := s_check_net) l34 c34 k34
  have m34 := PySem.W.mg_of X G a34
  have b34 := D34.binds (ps := ["net"]) fun _ _ _ _ _ _ us hl => match us, hl with | [_], _ => rfl
  have D35 := fun_mk (st := s_read_net) l35 c35 k35
  have m35 := PySem.W.mg_of X G a35
  have b35 := D35.binds (ps := ["text"]) fun _ _ _ _ _ _ us hl => match us, hl with | [_], _ => rfl
  have D36 := fun_mk (st := s__law_place) l36 c36 k36
  have m36 := PySem.W.mg_of X G a36
  have b36 := D36.binds (ps := ["_law_text"]) fun _ _ _ _ _ _ us hl => match us, hl with | [_], _ => rfl
  have D37 := fun_mk (st := s_law) l37 c37 k37
  have m37 := PySem.W.mg_of X G a37
  have mm_abs : mg "abs" = none := PySem.W.mg_none_of X G z_abs
  have mm_all : mg "all" = none := PySem.W.mg_none_of X G z_all
  have mm_bool : mg "bool" = none := PySem.W.mg_none_of X G z_bool
  have mm_enumerate : mg "enumerate" = none := PySem.W.mg_none_of X G z_enumerate
  have mm_int : mg "int" = none := PySem.W.mg_none_of X G z_int
  have mm_isinstance : mg "isinstance" = none := PySem.W.mg_none_of X G z_isinstance
  have mm_len : mg "len" = none := PySem.W.mg_none_of X G z_len
  have mm_range : mg "range" = none := PySem.W.mg_none_of X G z_range
  have mm_sorted : mg "sorted" = none := PySem.W.mg_none_of X G z_sorted
  have mm_str : mg "str" = none := PySem.W.mg_none_of X G z_str
  have mm_tuple : mg "tuple" = none := PySem.W.mg_none_of X G z_tuple
  have mm_zip : mg "zip" = none := PySem.W.mg_none_of X G z_zip
  have G0 := ok__law_cell_at (P := l.prog) (w := w) (base := base) (mg := mg) (xc := xc) D0 mm_len
  have G1 := ok__law_draw (P := l.prog) (w := w) (base := base) (mg := mg) (xc := xc) D1 mm_int
  have G2 := ok__law_number (P := l.prog) (w := w) (base := base) (mg := mg) (xc := xc) D2 G1 m1 k1 b1 mm_int mm_range
  have G3 := ok__law_next (P := l.prog) (w := w) (base := base) (mg := mg) (xc := xc) D3 G0 m0 k0 b0 G2 m2 k2 b2 mm_int
  have G4 := ok_LineReader___init__ (P := l.prog) (w := w) (base := base) (mg := mg) (xc := xc) D4 O_LineReader
  have G5 := ok_LineReader_skip (P := l.prog) (w := w) (base := base) (mg := mg) (xc := xc) D5 O_LineReader mm_len
  have G6 := ok_LineReader_is_over (P := l.prog) (w := w) (base := base) (mg := mg) (xc := xc) D6 O_LineReader G5 ⟨a5, i5, k5⟩ b5 mm_len
  have G7 := ok_LineReader_end_of (P := l.prog) (w := w) (base := base) (mg := mg) (xc := xc) D7 O_LineReader mm_len
  have G8 := ok_LineReader_word (P := l.prog) (w := w) (base := base) (mg := mg) (xc := xc) D8 O_LineReader G5 ⟨a5, i5, k5⟩ b5 G7 ⟨a7, i7, k7⟩ b7 t_LETTERS
  have G9 := ok_LineReader_wrong (P := l.prog) (w := w) (base := base) (mg := mg) (xc := xc) D9 O_LineReader T_BadText x_BadText x_BadText_g
  have G10 := ok_LineReader_taken (P := l.prog) (w := w) (base := base) (mg := mg) (xc := xc) D10 O_LineReader G8 ⟨a8, i8, k8⟩ b8 mm_len
  have G11 := ok_LineReader_name_next (P := l.prog) (w := w) (base := base) (mg := mg) (xc := xc) D11 O_LineReader G8 ⟨a8, i8, k8⟩ b8 G9 ⟨a9, i9, k9⟩ b9 mm_len t_FIGURES t_WORDS
  have G12 := ok_LineReader_apart (P := l.prog) (w := w) (base := base) (mg := mg) (xc := xc) D12 O_LineReader G9 ⟨a9, i9, k9⟩ b9
  have G13 := ok_LineReader_number_next (P := l.prog) (w := w) (base := base) (mg := mg) (xc := xc) D13 O_LineReader G5 ⟨a5, i5, k5⟩ b5 G7 ⟨a7, i7, k7⟩ b7 G9 ⟨a9, i9, k9⟩ b9 mm_int mm_len t_FIGURES t_MOST_FIGURES t_MOST_X
  have G14 := ok_LineReader_breaker (P := l.prog) (w := w) (base := base) (mg := mg) (xc := xc) D14 O_LineReader G11 ⟨a11, i11, k11⟩ b11 G9 ⟨a9, i9, k9⟩ b9 G12 ⟨a12, i12, k12⟩ b12 mm_int mm_len
  have G15 := ok_read_breaker (P := l.prog) (w := w) (base := base) (mg := mg) (xc := xc) D15 O_LineReader G5 ⟨a5, i5, k5⟩ b5 G14 ⟨a14, i14, k14⟩ b14 G9 ⟨a9, i9, k9⟩ b9
  have G16 := ok_common (P := l.prog) (w := w) (base := base) (mg := mg) (xc := xc) D16 mm_abs
  have G17 := ok_frac (P := l.prog) (w := w) (base := base) (mg := mg) (xc := xc) D17 G16 m16 k16 b16
  have G18 := ok_LineReader_fraction (P := l.prog) (w := w) (base := base) (mg := mg) (xc := xc) D18 O_LineReader G13 ⟨a13, i13, k13⟩ b13 G9 ⟨a9, i9, k9⟩ b9 G12 ⟨a12, i12, k12⟩ b12 G17 m17 k17 b17 mm_len
  have G19 := ok_LineReader_want (P := l.prog) (w := w) (base := base) (mg := mg) (xc := xc) D19 O_LineReader G10 ⟨a10, i10, k10⟩ b10 G9 ⟨a9, i9, k9⟩ b9
  have G20 := ok_read_told (P := l.prog) (w := w) (base := base) (mg := mg) (xc := xc) D20 O_LineReader G10 ⟨a10, i10, k10⟩ b10 G15 m15 k15 b15 G18 ⟨a18, i18, k18⟩ b18 G11 ⟨a11, i11, k11⟩ b11 G19 ⟨a19, i19, k19⟩ b19
  have G21 := ok_read_guard (P := l.prog) (w := w) (base := base) (mg := mg) (xc := xc) D21 O_LineReader G11 ⟨a11, i11, k11⟩ b11 G20 m20 k20 b20 G19 ⟨a19, i19, k19⟩ b19 G12 ⟨a12, i12, k12⟩ b12 G13 ⟨a13, i13, k13⟩ b13 G15 m15 k15 b15 G6 ⟨a6, i6, k6⟩ b6 mm_sorted mm_tuple
  have G22 := ok_read_line (P := l.prog) (w := w) (base := base) (mg := mg) (xc := xc) D22 O_LineReader G8 ⟨a8, i8, k8⟩ b8 G9 ⟨a9, i9, k9⟩ b9 G10 ⟨a10, i10, k10⟩ b10 G11 ⟨a11, i11, k11⟩ b11 G12 ⟨a12, i12, k12⟩ b12 G13 ⟨a13, i13, k13⟩ b13 G21 m21 k21 b21 G18 ⟨a18, i18, k18⟩ b18 G19 ⟨a19, i19, k19⟩ b19 G6 ⟨a6, i6, k6⟩ b6
  have G23 := ok_check (P := l.prog) (w := w) (base := base) (mg := mg) (xc := xc) D23 T_BadNet x_BadNet x_BadNet_g
  have G24 := ok_is_name (P := l.prog) (w := w) (base := base) (mg := mg) (xc := xc) D24 mm_all mm_isinstance mm_len mm_str t_LETTERS t_WORDS
  have G25 := ok_is_whole (P := l.prog) (w := w) (base := base) (mg := mg) (xc := xc) D25 mm_bool mm_int mm_isinstance
  have G26 := ok_check_lists (P := l.prog) (w := w) (base := base) (mg := mg) (xc := xc) D26 G23 m23 k23 b23 G24 m24 k24 b24 G25 m25 k25 b25 mm_all mm_isinstance mm_len mm_tuple t_MOST_BUSES t_MOST_GUARDS t_MOST_LINES t_MOST_SOURCES t_MOST_X
  have G27 := ok_breakers_of (P := l.prog) (w := w) (base := base) (mg := mg) (xc := xc) D27 
  have G28 := ok_is_frac (P := l.prog) (w := w) (base := base) (mg := mg) (xc := xc) D28 G16 m16 k16 b16 mm_all mm_bool mm_int mm_isinstance mm_len mm_tuple
  have G29 := ok_is_above (P := l.prog) (w := w) (base := base) (mg := mg) (xc := xc) D29 G28 m28 k28 b28 t_MOST_X
  have G30 := ok_is_told (P := l.prog) (w := w) (base := base) (mg := mg) (xc := xc) D30 G29 m29 k29 b29 mm_bool mm_isinstance mm_len mm_str mm_tuple
  have G31 := ok_sign_of (P := l.prog) (w := w) (base := base) (mg := mg) (xc := xc) D31 
  have G32 := ok_compare (P := l.prog) (w := w) (base := base) (mg := mg) (xc := xc) D32 G31 m31 k31 b31
  have G33 := ok_is_rules (P := l.prog) (w := w) (base := base) (mg := mg) (xc := xc) D33 G28 m28 k28 b28 G32 m32 k32 b32 G25 m25 k25 b25 mm_isinstance mm_len mm_tuple t_MOST_AGE t_MOST_TICKS t_MOST_X
  have G34 := ok_check_net (P := l.prog) (w := w) (base := base) (mg := mg) (xc := xc) D34 G26 m26 k26 b26 G27 m27 k27 b27 G30 m30 k30 b30 G23 m23 k23 b23 G25 m25 k25 b25 G33 m33 k33 b33 mm_all mm_isinstance mm_len mm_tuple mm_zip t_MOST_DELAY
  have G35 := ok_read_net (P := l.prog) (w := w) (base := base) (mg := mg) (xc := xc) D35 O_LineReader G4 b4 G6 ⟨a6, i6, k6⟩ b6 G22 m22 k22 b22 G34 m34 k34 b34 ⟨mk_LineReader, a4, i4, kc_LineReader⟩ mg_LineReader T_BadText x_BadText x_BadText_g mm_enumerate mm_isinstance mm_len mm_str mm_tuple
  have G36 := ok__law_place (P := l.prog) (w := w) (base := base) (mg := mg) (xc := xc) D36 G35 m35 k35 b35 T_BadText x_BadText x_BadText_g T_BadNet x_BadNet x_BadNet_g ct_BadText ct_BadNet
  exact ok_law D37 G3 m3 k3 b3 G36 m36 k36 b36
/-- the law's promise, whatever the classes' places -/
def spLaw (K : PySem.W.Frag) : Sp := fun vs H Q E => ∀ xc : Xc, spX K xc g_law vs H Q E
theorem all_mk2 {P : Program} {w : World} {K : PySem.W.Frag} {mg : Str → Option Value} {fa : Addr} {ps : List Str} {lv : Nat} {x : Str}
    (h : ∃ (fd : FuncData) (xc : Xc), (∀ (s : Shared) (v : Value), BindsTo s fd ⟨[v], []⟩ [(x, v)]) ∧ ∀ base : Heap, K.In base → base.Ns mainGlobals mg → FnOk P w K mg base CX0 lv fa fd ps (spX K xc g_law)) :
    ∃ fd : FuncData, (∀ (s : Shared) (v : Value), BindsTo s fd ⟨[v], []⟩ [(x, v)]) ∧ ∀ base : Heap, K.In base → base.Ns mainGlobals mg → FnOk P w K mg base CX0 lv fa fd ps (spLaw K) := by
  obtain ⟨fd, xc, h1, h2⟩ := h
  exact ⟨fd, h1, fun base a b => (h2 base a b).imp fun vs H Q E q => q xc⟩
end LW

open PySem PySem.W PyProof.Rows
set_option maxHeartbeats 0 in
theorem PySem.Challenge.cw_justthepart_k07_wrong_texts_holds : PySem.Challenge.rw_justthepart_k07_wrong_texts.Holds := by
  w_on; o_law; k_head; (case hw => w_witness2)
  k_fill
  refine L2.walk_of (l := PySem.Challenge.rw_justthepart_k07_wrong_texts) (n := 63) (k := 11) (x := "_law_script") (CX := fun _ => L2.CX0) (sp := fun w => LW.spLaw _) rfl (by decide) rfl ⟨rfl, by decide, by decide⟩ (fun w h Y => PySem.W.kIn_of Y) ?F (fun _ _ a ns hl _ hS xc => DL.law_end hS (LW.law_true ns hl)) (fun _ _ _ _ _ h => h)
  case F =>
    intro w mg fa h KX G hmg
    refine LW.all_mk2 ?_
    refine' LW.all_mk KX G hmg ?aC_LineReader ?pg_LineReader ?hd_LineReader ?po_LineReader ?sa_LineReader ?mk_LineReader ?kc_LineReader ?nf_LineReader_line ?nf_LineReader_number ?nf_LineReader_here ?aX_BadText ?xL_BadText ?xsa_BadText ?xga_BadText ?xgg_BadText ?xi_BadText ?xt_BadText ?xl_BadText ?xc_BadText ?xk_BadText ?xe_BadText ?xy_BadText ?xh_BadText ?xp_BadText ?xn0_BadText ?xn1_BadText ?aX_BadNet ?xL_BadNet ?xsa_BadNet ?xga_BadNet ?xgg_BadNet ?xi_BadNet ?xt_BadNet ?xl_BadNet ?xc_BadNet ?xk_BadNet ?xe_BadNet ?xy_BadNet ?xh_BadNet ?xp_BadNet ?xn0_BadNet ?xn1_BadNet ?xs_BadText_BadText ?xs_BadNet_BadText ?xs_BadText_BadNet ?xs_BadNet_BadNet ?a0 ?l0 ?c0 ?k0 ?a1 ?l1 ?c1 ?k1 ?a2 ?l2 ?c2 ?k2 ?a3 ?l3 ?c3 ?k3 ?a4 ?i4 ?l4 ?c4 ?k4 ?a5 ?i5 ?l5 ?c5 ?k5 ?a6 ?i6 ?l6 ?c6 ?k6 ?a7 ?i7 ?l7 ?c7 ?k7 ?a8 ?i8 ?l8 ?c8 ?k8 ?a9 ?i9 ?l9 ?c9 ?k9 ?a10 ?i10 ?l10 ?c10 ?k10 ?a11 ?i11 ?l11 ?c11 ?k11 ?a12 ?i12 ?l12 ?c12 ?k12 ?a13 ?i13 ?l13 ?c13 ?k13 ?a14 ?i14 ?l14 ?c14 ?k14 ?a15 ?l15 ?c15 ?k15 ?a16 ?l16 ?c16 ?k16 ?a17 ?l17 ?c17 ?k17 ?a18 ?i18 ?l18 ?c18 ?k18 ?a19 ?i19 ?l19 ?c19 ?k19 ?a20 ?l20 ?c20 ?k20 ?a21 ?l21 ?c21 ?k21 ?a22 ?l22 ?c22 ?k22 ?a23 ?l23 ?c23 ?k23 ?a24 ?l24 ?c24 ?k24 ?a25 ?l25 ?c25 ?k25 ?a26 ?l26 ?c26 ?k26 ?a27 ?l27 ?c27 ?k27 ?a28 ?l28 ?c28 ?k28 ?a29 ?l29 ?c29 ?k29 ?a30 ?l30 ?c30 ?k30 ?a31 ?l31 ?c31 ?k31 ?a32 ?l32 ?c32 ?k32 ?a33 ?l33 ?c33 ?k33 ?a34 ?l34 ?c34 ?k34 ?a35 ?l35 ?c35 ?k35 ?a36 ?l36 ?c36 ?k36 ?a37 ?l37 ?c37 ?k37 ?z_abs ?z_all ?z_bool ?z_enumerate ?z_int ?z_isinstance ?z_len ?z_range ?z_sorted ?z_str ?z_tuple ?z_zip ?g_FIGURES ?g_LETTERS ?g_MOST_AGE ?g_MOST_BUSES ?g_MOST_DELAY ?g_MOST_FIGURES ?g_MOST_GUARDS ?g_MOST_LINES ?g_MOST_SOURCES ?g_MOST_TICKS ?g_MOST_X ?g_WORDS ?luWORDS
    (case aC_LineReader => k_is); (case pg_LineReader => k_is); (case hd_LineReader => k_is); (case po_LineReader => k_is); (case sa_LineReader => k_is); (case mk_LineReader => k_is); (case kc_LineReader => k_is); (case nf_LineReader_line => k_is); (case nf_LineReader_number => k_is); (case nf_LineReader_here => k_is); (case aX_BadText => k_is); (case xL_BadText => k_is); (case xsa_BadText => k_is); (case xga_BadText => k_is); (case xgg_BadText => k_is); (case xi_BadText => k_is); (case xt_BadText => k_is); (case xl_BadText => k_is); (case xc_BadText => k_is); (case xk_BadText => k_is); (case xe_BadText => k_is); (case xy_BadText => k_is); (case xh_BadText => k_is); (case xp_BadText => k_is); (case xn0_BadText => k_is); (case xn1_BadText => k_is); (case aX_BadNet => k_is); (case xL_BadNet => k_is); (case xsa_BadNet => k_is); (case xga_BadNet => k_is); (case xgg_BadNet => k_is); (case xi_BadNet => k_is); (case xt_BadNet => k_is); (case xl_BadNet => k_is); (case xc_BadNet => k_is); (case xk_BadNet => k_is); (case xe_BadNet => k_is); (case xy_BadNet => k_is); (case xh_BadNet => k_is); (case xp_BadNet => k_is); (case xn0_BadNet => k_is); (case xn1_BadNet => k_is); (case xs_BadText_BadText => k_is); (case xs_BadNet_BadText => k_is); (case xs_BadText_BadNet => k_is); (case xs_BadNet_BadNet => k_is); (case a0 => k_is); (case l0 => k_is); (case c0 => k_is); (case k0 => k_is); (case a1 => k_is); (case l1 => k_is); (case c1 => k_is); (case k1 => k_is); (case a2 => k_is); (case l2 => k_is); (case c2 => k_is); (case k2 => k_is); (case a3 => k_is); (case l3 => k_is); (case c3 => k_is); (case k3 => k_is); (case a4 => k_is); (case i4 => k_is); (case l4 => k_is); (case c4 => k_is); (case k4 => k_is); (case a5 => k_is); (case i5 => k_is); (case l5 => k_is); (case c5 => k_is); (case k5 => k_is); (case a6 => k_is); (case i6 => k_is); (case l6 => k_is); (case c6 => k_is); (case k6 => k_is); (case a7 => k_is); (case i7 => k_is); (case l7 => k_is); (case c7 => k_is); (case k7 => k_is); (case a8 => k_is); (case i8 => k_is); (case l8 => k_is); (case c8 => k_is); (case k8 => k_is); (case a9 => k_is); (case i9 => k_is); (case l9 => k_is); (case c9 => k_is); (case k9 => k_is); (case a10 => k_is); (case i10 => k_is); (case l10 => k_is); (case c10 => k_is); (case k10 => k_is); (case a11 => k_is); (case i11 => k_is); (case l11 => k_is); (case c11 => k_is); (case k11 => k_is); (case a12 => k_is); (case i12 => k_is); (case l12 => k_is); (case c12 => k_is); (case k12 => k_is); (case a13 => k_is); (case i13 => k_is); (case l13 => k_is); (case c13 => k_is); (case k13 => k_is); (case a14 => k_is); (case i14 => k_is); (case l14 => k_is); (case c14 => k_is); (case k14 => k_is); (case a15 => k_is); (case l15 => k_is); (case c15 => k_is); (case k15 => k_is); (case a16 => k_is); (case l16 => k_is); (case c16 => k_is); (case k16 => k_is); (case a17 => k_is); (case l17 => k_is); (case c17 => k_is); (case k17 => k_is); (case a18 => k_is); (case i18 => k_is); (case l18 => k_is); (case c18 => k_is); (case k18 => k_is); (case a19 => k_is); (case i19 => k_is); (case l19 => k_is); (case c19 => k_is); (case k19 => k_is); (case a20 => k_is); (case l20 => k_is); (case c20 => k_is); (case k20 => k_is); (case a21 => k_is); (case l21 => k_is); (case c21 => k_is); (case k21 => k_is); (case a22 => k_is); (case l22 => k_is); (case c22 => k_is); (case k22 => k_is); (case a23 => k_is); (case l23 => k_is); (case c23 => k_is); (case k23 => k_is); (case a24 => k_is); (case l24 => k_is); (case c24 => k_is); (case k24 => k_is); (case a25 => k_is); (case l25 => k_is); (case c25 => k_is); (case k25 => k_is); (case a26 => k_is); (case l26 => k_is); (case c26 => k_is); (case k26 => k_is); (case a27 => k_is); (case l27 => k_is); (case c27 => k_is); (case k27 => k_is); (case a28 => k_is); (case l28 => k_is); (case c28 => k_is); (case k28 => k_is); (case a29 => k_is); (case l29 => k_is); (case c29 => k_is); (case k29 => k_is); (case a30 => k_is); (case l30 => k_is); (case c30 => k_is); (case k30 => k_is); (case a31 => k_is); (case l31 => k_is); (case c31 => k_is); (case k31 => k_is); (case a32 => k_is); (case l32 => k_is); (case c32 => k_is); (case k32 => k_is); (case a33 => k_is); (case l33 => k_is); (case c33 => k_is); (case k33 => k_is); (case a34 => k_is); (case l34 => k_is); (case c34 => k_is); (case k34 => k_is); (case a35 => k_is); (case l35 => k_is); (case c35 => k_is); (case k35 => k_is); (case a36 => k_is); (case l36 => k_is); (case c36 => k_is); (case k36 => k_is); (case a37 => k_is); (case l37 => k_is); (case c37 => k_is); (case k37 => k_is); (case z_abs => k_is); (case z_all => k_is); (case z_bool => k_is); (case z_enumerate => k_is); (case z_int => k_is); (case z_isinstance => k_is); (case z_len => k_is); (case z_range => k_is); (case z_sorted => k_is); (case z_str => k_is); (case z_tuple => k_is); (case z_zip => k_is); (case g_FIGURES => k_is); (case g_LETTERS => k_is); (case g_MOST_AGE => k_is); (case g_MOST_BUSES => k_is); (case g_MOST_DELAY => k_is); (case g_MOST_FIGURES => k_is); (case g_MOST_GUARDS => k_is); (case g_MOST_LINES => k_is); (case g_MOST_SOURCES => k_is); (case g_MOST_TICKS => k_is); (case g_MOST_X => k_is); (case g_WORDS => k_is); (case luWORDS => k_is)

