import PyProof.Rows.All
import HandS.ForMost
import HandS.Wide
import KE.KDictKeyed
import HandS.TupAny
import HandS.Zip
import HandS.Style
import HandS.ForExc
import HandS.Deep
import HandS.IsInst
import HandS.Star
import HandS.Comp
import HandS.ExcOwn
import HandS.TryMany
import HandS.ExcInit
import KE.GoesEnum
import KE.SortData
import KE.DataCmp
import HandS.TupMul
import HandS.RaiseMore
import PyProof.StrOps2
import PyProof.StrLawsChain
import PyProof.StrLawsTight
import PyProof.Rows.StrItems
import PyProof.Rows.ReprOcc
import KE.DataMinMax
import HandS.DictComp
import KE.GoesZip
import HandS.HotCalls
import HandS.SuiteRaise
import HandS.ExcInitHot
import PyProof.P3Eq
import PySem.Challenge.RW_justthepart_k05_taken_nets
set_option Elab.async false
set_option linter.all false
set_option exponentiation.threshold 10000
set_option maxRecDepth 1000000
set_option maxHeartbeats 4000000
namespace DL
open PySem PySem.Spec PyProof.Rows L2
abbrev Dat := PyData
abbrev cel (n : Nat) : Dat := .dict [(.int n, .none)]
abbrev seal_ (ns : List Int) : Dat := .dict [(.none, .list (ns.map PyData.int))]
structure Xc where
  ex : Nat → Option (Addr × List Str) := fun _ => none
  ob : Nat → Option (Addr × List Str) := fun _ => none
  pw : Option (Program × World) := none
inductive Cel where
  | ls (ds : List Dat)
  | dk (kvs : List (Key × Dat))
  | dt (kvs : List (List Key × Dat))
  | dn (kvs : List (Dat × Dat))
  | ob (id : Nat) (ds : List Dat)
abbrev Sto := List Cel
inductive Slt where
  | un | fz (d : Dat) | ow (c : Cel)
abbrev Lcs := List Slt
inductive Res (α : Type) where
  | bad | ok (a : α) (s : Sto) | ex (x : Dat) (s : Sto)
inductive Flo where
  | bad | nx (e : Lcs) (s : Sto) | rt (d : Dat) (s : Sto) | bk (e : Lcs) (s : Sto) | ct (e : Lcs) (s : Sto) | ex (x : Dat) (e : Lcs) (s : Sto)
mutual
def Rp (K : PySem.W.Frag) (as : List Addr) (F : Hp) : Dat → V → Prop
  | .none, v => v = .non
  | .bool b, v => v = .bl b
  | .int i, v => v = .int i
  | .str x, v => v = .str x
  | .list ds, v => ∃ a xs, v = .ref a ∧ F a = some (.lst xs) ∧ RpL K as F ds xs
  | .tuple ds, v => ∃ a xs, v = .ref a ∧ SqT K F a xs ∧ RpL K as F ds xs
  | .dict kvs, v => match kvs with
    | [(.int n, .none)] => ∃ a, v = .ref a ∧ as[n.toNat]? = some a
    | [(.none, .list ds)] => ∃ (a : Addr) (ns : List Int), v = .ref a ∧ ds = ns.map PyData.int ∧ SqL K F a (ns.map V.int)
    | _ => False
def RpL (K : PySem.W.Frag) (as : List Addr) (F : Hp) : List Dat → List V → Prop
  | [], [] => True
  | d :: ds, v :: vs => Rp K as F d v ∧ RpL K as F ds vs
  | [], _ :: _ => False
  | _ :: _, [] => False
end
mutual
def kOk : Nat → Dat → Bool
  | _, .none => true
  | _, .int _ => true
  | _, .str _ => true
  | 0, .tuple _ => false
  | n + 1, .tuple ds => kOkL n ds
  | _, _ => false
def kOkL : Nat → List Dat → Bool
  | _, [] => true
  | n, d :: ds => kOk n d && kOkL n ds
end
mutual
def toN : Dat → NestedKey
  | .int i => .num i
  | .str x => .text x
  | .tuple ds => .tup (toNL ds)
  | _ => .none
def toNL : List Dat → List NestedKey
  | [] => []
  | d :: ds => toN d :: toNL ds
end
mutual
def kEq : Dat → Dat → Bool
  | .none, .none => true
  | .int i, .int j => decide (i = j)
  | .str x, .str y => decide (x = y)
  | .tuple xs, .tuple ys => kEqL xs ys
  | _, _ => false
def kEqL : List Dat → List Dat → Bool
  | [], [] => true
  | x :: xs, y :: ys => kEq x y && kEqL xs ys
  | _, _ => false
end
def NDict (P : Program) (w : World) (p : Addr) (xs : List (NestedKey × Addr × Value)) : Heap → Prop := fun h =>
  (p == sysModules) = false ∧ xs.length ≤ sizeLine ∧ ∃ o es ep, h.get? p = some o ∧ o.ExactDict ∧ o.data = Data.dict es ep ∧ es.toList = xs.map (entryOfKey (nestedKind P w)) ∧ (xs.map fun x => x.1).Nodup
def NRel (K : PySem.W.Frag) (as : List Addr) (F : Hp) : List (Dat × Dat) → List (NestedKey × Addr × Value) → Prop
  | [], [] => True
  | kd :: kvs, x :: xs => ((∃ ds, kd.1 = .tuple ds) ∧ kOk 8 kd.1 = true ∧ x.1 = toN kd.1 ∧ Rp K as F kd.1 (.ref x.2.1) ∧ ∃ v, Rp K as F kd.2 v ∧ RelV v x.2.2) ∧ NRel K as F kvs xs
  | _, _ => False
def CR (xc : Xc) (K : PySem.W.Frag) (as : List Addr) (F : Hp) (p : Addr) : Cel → HO → Prop
  | .dn kvs, ho => ∃ P w xs, xc.pw = some (P, w) ∧ ho = .ext (NDict P w p xs) ∧ NRel K as F kvs xs
  | .ls ds, ho => ∃ vs, ho = .lst vs ∧ RpL K as F ds vs
  | .dk kvs, ho => ∃ vs, ho = .dK ((kvs.map Prod.fst).zip vs) ∧ RpL K as F (kvs.map Prod.snd) vs
  | .dt kvs, ho => ∃ vs, ho = .dT ((kvs.map Prod.fst).zip vs) ∧ RpL K as F (kvs.map Prod.snd) vs
  | .ob id ds, ho => ∃ C fns dx vs, xc.ob id = some (C, fns) ∧ ho = .ins C dx (fns.zip vs) ∧ ds.length ≤ fns.length ∧ RpL K as F ds vs
theorem cr_ls {p : Addr} {xc : Xc} {K : PySem.W.Frag} {as : List Addr} {F : Hp} {ds : List Dat} {vs : List V} (h : RpL K as F ds vs) : CR xc K as F p (.ls ds) (.lst vs) := ⟨vs, rfl, h⟩
theorem sqL_mono {K : PySem.W.Frag} {F F' : Hp} {a : Addr} {xs : List V} (h : Same F F') (q : SqL K F a xs) : SqL K F' a xs := h.seq q
theorem sqT_mono {K : PySem.W.Frag} {F F' : Hp} {a : Addr} {xs : List V} (e : Same F F') (h : SqT K F a xs) : SqT K F' a xs := by
  rcases h with (h | ⟨o, h⟩) | h
  · exact .inl (.inl (e _ _ h))
  · exact .inl (.inr ⟨o, e _ _ h⟩)
  · exact .inr h
def Beg (as as' : List Addr) : Prop := ∃ more, as' = as ++ more
theorem Beg.refl (as : List Addr) : Beg as as := ⟨[], by simp⟩
theorem Beg.trans {a b c : List Addr} (h : Beg a b) (h' : Beg b c) : Beg a c := by
  obtain ⟨x, rfl⟩ := h
  obtain ⟨y, rfl⟩ := h'
  exact ⟨x ++ y, by simp⟩
theorem Beg.get {as as' : List Addr} (h : Beg as as') {n : Nat} {a : Addr} (e : as[n]? = some a) : as'[n]? = some a := by
  obtain ⟨x, rfl⟩ := h
  rw [List.getElem?_append_left (List.getElem?_eq_some_iff.mp e).1]
  exact e
theorem Beg.mem {as as' : List Addr} (h : Beg as as') {a : Addr} (e : a ∈ as) : a ∈ as' := by
  obtain ⟨x, rfl⟩ := h
  exact List.mem_append_left _ e
mutual
theorem Rp.mono {K : PySem.W.Frag} {as as' : List Addr} {F F' : Hp} (hb : Beg as as') (hs : Same F F') : ∀ (d : Dat) (v : V), Rp K as F d v → Rp K as' F' d v
  | .none, v, h => by simpa [Rp] using h
  | .bool b, v, h => by simpa [Rp] using h
  | .int i, v, h => by simpa [Rp] using h
  | .str x, v, h => by simpa [Rp] using h
  | .list ds, v, h => by
    simp only [Rp] at h ⊢
    obtain ⟨a, xs, e, q, r⟩ := h
    exact ⟨a, xs, e, hs _ _ q, RpL.mono hb hs ds xs r⟩
  | .tuple ds, v, h => by
    simp only [Rp] at h ⊢
    obtain ⟨a, xs, e, q, r⟩ := h
    exact ⟨a, xs, e, sqT_mono hs q, RpL.mono hb hs ds xs r⟩
  | .dict kvs, v, h => by
    unfold Rp at h ⊢
    split at h
    · obtain ⟨a, e, q⟩ := h
      exact ⟨a, e, hb.get q⟩
    · obtain ⟨a, ns, e, e2, q⟩ := h
      exact ⟨a, ns, e, e2, sqL_mono hs q⟩
    · exact h.elim
theorem RpL.mono {K : PySem.W.Frag} {as as' : List Addr} {F F' : Hp} (hb : Beg as as') (hs : Same F F') : ∀ (ds : List Dat) (vs : List V), RpL K as F ds vs → RpL K as' F' ds vs
  | [], [], h => by simp [RpL]
  | d :: ds, v :: vs, h => by
    simp only [RpL] at h ⊢
    exact ⟨Rp.mono hb hs d v h.1, RpL.mono hb hs ds vs h.2⟩
  | [], _ :: _, h => by simp [RpL] at h
  | _ :: _, [], h => by simp [RpL] at h
end
section
variable {K : PySem.W.Frag} {as : List Addr} {F : Hp}
theorem RpL.length : ∀ {ds : List Dat} {vs : List V}, RpL K as F ds vs → vs.length = ds.length
  | [], [], _ => rfl
  | d :: ds, v :: vs, h => by
    simp only [RpL] at h
    simp [RpL.length h.2]
  | [], _ :: _, h => by simp [RpL] at h
  | _ :: _, [], h => by simp [RpL] at h
theorem RpL.get : ∀ {ds : List Dat} {vs : List V} {i : Nat} {v : V}, RpL K as F ds vs → vs[i]? = some v → ∃ d, ds[i]? = some d ∧ Rp K as F d v
  | [], [], i, v, _, e => by simp at e
  | d :: ds, v :: vs, 0, u, h, e => by
    simp only [RpL] at h
    simp at e; subst e
    exact ⟨d, rfl, h.1⟩
  | d :: ds, v :: vs, i + 1, u, h, e => by
    simp only [RpL] at h
    obtain ⟨x, hx, r⟩ := RpL.get (i := i) h.2 (by simpa using e)
    exact ⟨x, by simpa using hx, r⟩
  | [], _ :: _, _, _, h, _ => by simp [RpL] at h
  | _ :: _, [], _, _, h, _ => by simp [RpL] at h
theorem RpL.get' {ds : List Dat} {vs : List V} {i : Nat} {d : Dat} (h : RpL K as F ds vs) (e : ds[i]? = some d) : ∃ v, vs[i]? = some v ∧ Rp K as F d v := by
  have hl := h.length
  have hi : i < vs.length := by rw [hl]; exact (List.getElem?_eq_some_iff.mp e).1
  obtain ⟨x, hx, r⟩ := h.get (List.getElem?_eq_getElem hi)
  rw [e] at hx; cases hx
  exact ⟨_, List.getElem?_eq_getElem hi, r⟩
theorem RpL.append : ∀ {ds es : List Dat} {vs ws : List V}, RpL K as F ds vs → RpL K as F es ws → RpL K as F (ds ++ es) (vs ++ ws)
  | [], _, [], _, _, h => h
  | d :: ds, es, v :: vs, ws, h, h' => by
    simp only [RpL, List.cons_append] at h ⊢
    exact ⟨h.1, RpL.append h.2 h'⟩
  | [], _, _ :: _, _, h, _ => by simp [RpL] at h
  | _ :: _, _, [], _, h, _ => by simp [RpL] at h
theorem RpL.one {d : Dat} {v : V} (h : Rp K as F d v) : RpL K as F [d] [v] := by simp only [RpL]; exact ⟨h, trivial⟩
theorem RpL.nil : RpL K as F [] [] := by simp [RpL]
theorem RpL.cons {d : Dat} {v : V} {ds : List Dat} {vs : List V} (h : Rp K as F d v) (t : RpL K as F ds vs) : RpL K as F (d :: ds) (v :: vs) := by simp only [RpL]; exact ⟨h, t⟩
theorem RpL.take : ∀ {ds : List Dat} {vs : List V} (n : Nat), RpL K as F ds vs → RpL K as F (ds.take n) (vs.take n)
  | _, _, 0, _ => by simp [RpL]
  | [], [], n + 1, _ => by simp [RpL]
  | d :: ds, v :: vs, n + 1, h => by
    simp only [RpL, List.take_succ_cons] at h ⊢
    exact ⟨h.1, RpL.take n h.2⟩
  | [], _ :: _, _, h => by simp [RpL] at h
  | _ :: _, [], _, h => by simp [RpL] at h
theorem RpL.drop : ∀ {ds : List Dat} {vs : List V} (n : Nat), RpL K as F ds vs → RpL K as F (ds.drop n) (vs.drop n)
  | _, _, 0, h => h
  | [], [], n + 1, _ => by simp [RpL]
  | d :: ds, v :: vs, n + 1, h => by
    simp only [RpL, List.drop_succ_cons] at h ⊢
    exact RpL.drop n h.2
  | [], _ :: _, _, h => by simp [RpL] at h
  | _ :: _, [], _, h => by simp [RpL] at h
theorem RpL.set : ∀ {ds : List Dat} {vs : List V} (i : Nat) {d : Dat} {v : V}, RpL K as F ds vs → Rp K as F d v → RpL K as F (ds.set i d) (vs.set i v)
  | [], [], _, _, _, _, _ => by simp [RpL]
  | d :: ds, v :: vs, 0, _, _, h, r => by
    simp only [RpL, List.set_cons_zero] at h ⊢
    exact ⟨r, h.2⟩
  | d :: ds, v :: vs, i + 1, _, _, h, r => by
    simp only [RpL, List.set_cons_succ] at h ⊢
    exact ⟨h.1, RpL.set i h.2 r⟩
  | [], _ :: _, _, _, _, h, _ => by simp [RpL] at h
  | _ :: _, [], _, _, _, h, _ => by simp [RpL] at h
end
theorem NRel.mono {K : PySem.W.Frag} {as as' : List Addr} {F F' : Hp} (hb : Beg as as') (hs : Same F F') : ∀ {kvs : List (Dat × Dat)} {xs : List (NestedKey × Addr × Value)}, NRel K as F kvs xs → NRel K as' F' kvs xs
  | [], [], _ => trivial
  | kd :: kvs, x :: xs, h => by
    obtain ⟨⟨h0, h1, h2, h3, v, h4, h5⟩, t⟩ := h
    exact ⟨⟨h0, h1, h2, Rp.mono hb hs _ _ h3, v, Rp.mono hb hs _ _ h4, h5⟩, NRel.mono hb hs t⟩
  | [], _ :: _, h => h.elim
  | _ :: _, [], h => h.elim
theorem CR.mono {p : Addr} {xc : Xc} {K : PySem.W.Frag} {as as' : List Addr} {F F' : Hp} (hb : Beg as as') (hs : Same F F') {c : Cel} {ho : HO} (h : CR xc K as F p c ho) : CR xc K as' F' p c ho := by
  cases c with
  | dn kvs =>
    obtain ⟨P, w, xs, e, e2, r⟩ := h
    exact ⟨P, w, xs, e, e2, NRel.mono hb hs r⟩
  | ls ds =>
    obtain ⟨vs, e, r⟩ := h
    exact ⟨vs, e, RpL.mono hb hs _ _ r⟩
  | dk kvs =>
    obtain ⟨vs, e, r⟩ := h
    exact ⟨vs, e, RpL.mono hb hs _ _ r⟩
  | dt kvs =>
    obtain ⟨vs, e, r⟩ := h
    exact ⟨vs, e, RpL.mono hb hs _ _ r⟩
  | ob id ds =>
    obtain ⟨C, fns, dx, vs, e1, e2, e3, r⟩ := h
    exact ⟨C, fns, dx, vs, e1, e2, e3, RpL.mono hb hs _ _ r⟩
structure Wd where
  as : List Addr
  ow : Addr → Prop
open Classical in
noncomputable def Fz (w : Wd) (H : Hp) : Hp := fun a => if a ∈ w.as ∨ w.ow a then none else H a
theorem Fz_get {w : Wd} {H : Hp} {a : Addr} {o : HO} (h : Fz w H a = some o) : H a = some o ∧ a ∉ w.as ∧ ¬ w.ow a := by
  unfold Fz at h
  split at h
  · cases h
  · rename_i n
    exact ⟨h, fun q => n (.inl q), fun q => n (.inr q)⟩
theorem Fz_of {w : Wd} {H : Hp} {a : Addr} {o : HO} (h : H a = some o) (h1 : a ∉ w.as) (h2 : ¬ w.ow a) : Fz w H a = some o := by
  unfold Fz
  rw [if_neg (by rintro (q | q); exact h1 q; exact h2 q)]
  exact h
theorem Fz_sub {w : Wd} {H : Hp} : Same (Fz w H) H := fun a o h => (Fz_get h).1
structure Gx where
  K : PySem.W.Frag
  H0 : Hp
  as0 : List Addr
  O0 : Addr → Prop
  xc : Xc := {}
  W : Value → Option Addr → L2.St → Hp → Prop := fun _ _ _ _ => False
def ExR (K : PySem.W.Frag) (xc : Xc) (as : List Addr) (F : Hp) (x : Dat) (cls : Value) (d : Option Addr) : Prop :=
  ∃ (id : Nat) (fds : List Dat) (C : Addr) (fns : List Str) (dd : Addr) (vs : List V), x = .tuple (.int id :: fds) ∧ xc.ex id = some (C, fns) ∧ cls = .ref C ∧ d = some dd ∧ F dd = some (.xd (fns.zip vs)) ∧ fns.length = vs.length ∧ RpL K as F fds vs
structure IE (G : Gx) (w : Wd) (e : Lcs) (s : Sto) (σ : L2.St) (H : Hp) : Prop where
  len : e.length = σ.length
  slot : ∀ (i : Nat) d, e[i]? = some (.fz d) → ∃ v, σ[i]? = some (some v) ∧ Rp G.K w.as (Fz w H) d v
  own : ∀ (i : Nat) c, e[i]? = some (.ow c) → ∃ p ho, σ[i]? = some (some (.ref p)) ∧ w.ow p ∧ G.H0 p = none ∧ ¬ G.O0 p ∧ H p = some ho ∧ CR G.xc G.K w.as (Fz w H) p c ho
  inj : ∀ (i j : Nat) p ds es, e[i]? = some (.ow ds) → e[j]? = some (.ow es) → σ[i]? = some (some (.ref p)) → σ[j]? = some (some (.ref p)) → i = j
  slen : w.as.length = s.length
  cells : ∀ (n : Nat) c, s[n]? = some c → ∃ a ho, w.as[n]? = some a ∧ H a = some ho ∧ CR G.xc G.K w.as (Fz w H) a c ho
  nd : w.as.Nodup
  dis : ∀ a ∈ w.as, ¬ w.ow a
  beg : Beg G.as0 w.as
  o0 : ∀ a, G.O0 a → w.ow a
  there : ∀ a, w.ow a → H a ≠ none
  keep : ∀ a o, G.H0 a = some o → a ∉ G.as0 → H a = some o
  cfresh : ∀ a, a ∈ w.as → a ∉ G.as0 → G.H0 a = none
structure EExt (w : Wd) (H : Hp) (w' : Wd) (H' : Hp) : Prop where
  beg : Beg w.as w'.as
  same : Same (Fz w H) (Fz w' H')
  ow : w'.ow = w.ow
  own : ∀ a, w.ow a → H' a = H a
structure FExt (w : Wd) (H : Hp) (w' : Wd) (H' : Hp) : Prop where
  beg : Beg w.as w'.as
  same : Same (Fz w H) (Fz w' H')
section
variable {w w1 w2 : Wd} {H H1 H2 : Hp}
theorem EExt.refl : EExt w H w H := ⟨.refl _, .refl _, rfl, fun _ _ => rfl⟩
theorem EExt.trans (a : EExt w H w1 H1) (b : EExt w1 H1 w2 H2) : EExt w H w2 H2 :=
  ⟨a.beg.trans b.beg, a.same.trans b.same, b.ow.trans a.ow, fun x hx => (b.own x (by rw [a.ow]; exact hx)).trans (a.own x hx)⟩
theorem EExt.f (a : EExt w H w1 H1) : FExt w H w1 H1 := ⟨a.beg, a.same⟩
theorem FExt.refl : FExt w H w H := ⟨.refl _, .refl _⟩
theorem FExt.trans (a : FExt w H w1 H1) (b : FExt w1 H1 w2 H2) : FExt w H w2 H2 := ⟨a.beg.trans b.beg, a.same.trans b.same⟩
theorem FExt.rp {K : PySem.W.Frag} (x : FExt w H w1 H1) {d : Dat} {v : V} (h : Rp K w.as (Fz w H) d v) : Rp K w1.as (Fz w1 H1) d v := Rp.mono x.beg x.same d v h
theorem FExt.rpl {K : PySem.W.Frag} (x : FExt w H w1 H1) {d : List Dat} {v : List V} (h : RpL K w.as (Fz w H) d v) : RpL K w1.as (Fz w1 H1) d v := RpL.mono x.beg x.same d v h
theorem EExt.rp {K : PySem.W.Frag} (x : EExt w H w1 H1) {d : Dat} {v : V} (h : Rp K w.as (Fz w H) d v) : Rp K w1.as (Fz w1 H1) d v := x.f.rp h
theorem EExt.rpl {K : PySem.W.Frag} (x : EExt w H w1 H1) {d : List Dat} {v : List V} (h : RpL K w.as (Fz w H) d v) : RpL K w1.as (Fz w1 H1) d v := x.f.rpl h
end
section
variable {G : Gx} {w : Wd} {e : Lcs} {s : Sto} {σ : L2.St} {H : Hp}
theorem IE.cellThere (I : IE G w e s σ H) {a : Addr} (ha : a ∈ w.as) : H a ≠ none := by
  obtain ⟨n, hn, e1⟩ := List.getElem_of_mem ha
  have hs : n < s.length := by rw [← I.slen]; exact hn
  obtain ⟨b, vs, h1, h2, _⟩ := I.cells n _ (List.getElem?_eq_getElem hs)
  rw [List.getElem?_eq_getElem hn, e1] at h1
  cases h1
  rw [h2]; simp
theorem IE.ownL (I : IE G w e s σ H) {i : Nat} {ds : List Dat} (h : e[i]? = some (.ow (.ls ds))) : ∃ p vs, σ[i]? = some (some (.ref p)) ∧ w.ow p ∧ G.H0 p = none ∧ ¬ G.O0 p ∧ H p = some (.lst vs) ∧ RpL G.K w.as (Fz w H) ds vs := by
  obtain ⟨p, ho, h1, h2, h3, h4, h5, vs, rfl, h6⟩ := I.own i _ h
  exact ⟨p, vs, h1, h2, h3, h4, h5, h6⟩
theorem IE.cellL (I : IE G w e s σ H) {n : Nat} {ds : List Dat} (h : s[n]? = some (.ls ds)) : ∃ a vs, w.as[n]? = some a ∧ H a = some (.lst vs) ∧ RpL G.K w.as (Fz w H) ds vs := by
  obtain ⟨a, ho, h1, h2, vs, rfl, h3⟩ := I.cells n _ h
  exact ⟨a, vs, h1, h2, h3⟩
theorem IE.newF (I : IE G w e s σ H) {p : Addr} {o : HO} (hp : H p = none) : Fz w (upd H p o) p = some o :=
  Fz_of upd_same (fun q => I.cellThere q hp) (fun q => I.there p q hp)
theorem IE.sameF (I : IE G w e s σ H) {p : Addr} {o : HO} (hp : H p = none) : Same (Fz w H) (Fz w (upd H p o)) := fun a u h => by
  obtain ⟨h1, h2, h3⟩ := Fz_get h
  exact Fz_of (by rw [upd_ne (ne_of_none h1 hp)]; exact h1) h2 h3
theorem IE.new (I : IE G w e s σ H) {p : Addr} {o : HO} (hp : H p = none) : IE G w e s σ (upd H p o) := by
  have sm := I.sameF (o := o) hp
  have hx : ∀ {a : Addr} {u : HO}, H a = some u → upd H p o a = some u := fun {a u} h => by rw [upd_ne (ne_of_none h hp)]; exact h
  refine ⟨I.len, fun i d h => ?_, fun i ds h => ?_, I.inj, I.slen, fun n ds h => ?_, I.nd, I.dis, I.beg, I.o0, fun a h => ?_, fun a u h h' => hx (I.keep a u h h'), I.cfresh⟩
  · obtain ⟨v, h1, h2⟩ := I.slot i d h
    exact ⟨v, h1, Rp.mono (.refl _) sm _ _ h2⟩
  · obtain ⟨q, vs, h1, h2, h3, h4, h5, h6⟩ := I.own i ds h
    exact ⟨q, vs, h1, h2, h3, h4, hx h5, CR.mono (.refl _) sm h6⟩
  · obtain ⟨a, vs, h1, h2, h3⟩ := I.cells n ds h
    exact ⟨a, vs, h1, hx h2, CR.mono (.refl _) sm h3⟩
  · have q := I.there a h
    cases z : H a with
    | none => exact absurd z q
    | some u => rw [hx z]; simp
theorem IE.newE (I : IE G w e s σ H) {p : Addr} {o : HO} (hp : H p = none) : EExt w H w (upd H p o) :=
  ⟨.refl _, I.sameF hp, rfl, fun a ha => upd_ne fun z => by subst z; exact I.there a ha hp⟩
end
end DL
namespace DL
open PySem PySem.Spec PyProof.Rows L2
abbrev FE := Lcs → Sto → Res Dat
abbrev FT := Lcs → Sto → Res Bool
abbrev FA := Lcs → Sto → Res (List Dat)
abbrev FS := Lcs → Sto → Flo
abbrev FG := Dat → Lcs → Sto → Res Lcs
def Res.holds {α : Type} (r : Res α) (P : α → Sto → Prop) (R : Dat → Sto → Prop) : Prop := match r with
  | .bad => False
  | .ok a s => P a s
  | .ex x s => R x s
def Res.noex {α : Type} (r : Res α) : Res α := match r with
  | .ex _ _ => .bad
  | r => r
@[simp] theorem noex_ok {α : Type} (a : α) (s : Sto) : (Res.ok a s).noex = .ok a s := rfl
@[simp] theorem noex_bad {α : Type} : (Res.bad : Res α).noex = .bad := rfl
@[simp] theorem noex_ex {α : Type} (x : Dat) (s : Sto) : (Res.ex x s : Res α).noex = .bad := rfl
theorem holds_noex {α : Type} {r : Res α} {P : α → Sto → Prop} {R : Dat → Sto → Prop} (h : r.noex.holds P R) (R' : Dat → Sto → Prop) : r.holds P R' := by
  cases r with
  | bad => exact h
  | ok a s => exact h
  | ex x s => exact h.elim
def Res.bind {α β : Type} (r : Res α) (f : α → Sto → Res β) : Res β := match r with
  | .bad => .bad
  | .ok a s => f a s
  | .ex x s => .ex x s
@[simp] theorem bind_ex {α β : Type} (x : Dat) (s : Sto) (f : α → Sto → Res β) : (Res.ex x s : Res α).bind f = .ex x s := rfl
@[simp] theorem bind_ok {α β : Type} (a : α) (s : Sto) (f : α → Sto → Res β) : (Res.ok a s).bind f = f a s := rfl
@[simp] theorem bind_bad {α β : Type} (f : α → Sto → Res β) : (Res.bad : Res α).bind f = .bad := rfl
theorem holds_bind {α β : Type} {r : Res α} {f : α → Sto → Res β} {P : β → Sto → Prop} {R : Dat → Sto → Prop} (h : (r.bind f).holds P R) : r.holds (fun a s => (f a s).holds P R) R := by
  cases r with
  | bad => exact h
  | ok a s => exact h
  | ex x s => exact h
def kE (G : Gx) (w : Wd) (e : Lcs) (σ : L2.St) (H : Hp) (Q : VK) : Dat → Sto → Prop := fun d s' => ∀ w' v H', IE G w' e s' σ H' → EExt w H w' H' → Rp G.K w'.as (Fz w' H') d v → Q v H'
def kT (G : Gx) (w : Wd) (e : Lcs) (σ : L2.St) (H : Hp) (Q : Bool → Hp → Prop) : Bool → Sto → Prop := fun b s' => ∀ w' H', IE G w' e s' σ H' → EExt w H w' H' → Q b H'
def kA (G : Gx) (w : Wd) (e : Lcs) (σ : L2.St) (H : Hp) (Q : List V → Hp → Prop) : List Dat → Sto → Prop := fun ds s' => ∀ w' vs H', IE G w' e s' σ H' → EExt w H w' H' → RpL G.K w'.as (Fz w' H') ds vs → Q vs H'
def kX (G : Gx) (w : Wd) (e : Lcs) (σ : L2.St) (H : Hp) : Dat → Sto → Prop := fun x s' => ∀ w' H' cls d, IE G w' e s' σ H' → EExt w H w' H' → ExR G.K G.xc w'.as (Fz w' H') x cls d → G.W cls d σ H'
theorem kX_ext {G : Gx} {w w1 : Wd} {e : Lcs} {σ : L2.St} {H H1 : Hp} {d : Dat} {s : Sto} (x : EExt w H w1 H1) (h : kX G w e σ H d s) : kX G w1 e σ H1 d s :=
  fun w' H' cls d I x' r => h w' H' cls d I (x.trans x') r
theorem holds_imp {α : Type} {r : Res α} {P P' : α → Sto → Prop} {R R' : Dat → Sto → Prop} (h : r.holds P R) (k : ∀ a s, P a s → P' a s) (kR : ∀ x s, R x s → R' x s := by
  first
  | exact fun _ _ h => h
  | exact fun _ _ h => kX_ext (by assumption) h
  | exact fun _ _ h => kX_ext (EExt.trans (by assumption) (by assumption)) h
  | exact fun _ _ h => kX_ext (EExt.trans (by assumption) (EExt.trans (by assumption) (by assumption))) h
  | exact fun _ _ h => kX_ext (EExt.trans (by assumption) (EExt.trans (by assumption) (EExt.trans (by assumption) (by assumption)))) h) : r.holds P' R' := by
  cases r with
  | bad => exact h
  | ok a s => exact k _ _ h
  | ex x s => exact kR _ _ h
def tE (G : Gx) (F : FE) : TE := fun σ H Q => ∃ w e s, IE G w e s σ H ∧ (F e s).holds (kE G w e σ H Q) (kX G w e σ H)
def tT (G : Gx) (F : FT) : TT := fun σ H Q => ∃ w e s, IE G w e s σ H ∧ (F e s).holds (kT G w e σ H Q) (kX G w e σ H)
def tA (G : Gx) (F : FA) : TA := fun σ H Q => ∃ w e s, IE G w e s σ H ∧ (F e s).holds (kA G w e σ H Q) (kX G w e σ H)
theorem kE_ext {G : Gx} {w w1 : Wd} {e : Lcs} {σ : L2.St} {H H1 : Hp} {Q : VK} {d : Dat} {s : Sto} (x : EExt w H w1 H1) (h : kE G w e σ H Q d s) : kE G w1 e σ H1 Q d s :=
  fun w' v H' I x' r => h w' v H' I (x.trans x') r
theorem kT_ext {G : Gx} {w w1 : Wd} {e : Lcs} {σ : L2.St} {H H1 : Hp} {Q : Bool → Hp → Prop} {d : Bool} {s : Sto} (x : EExt w H w1 H1) (h : kT G w e σ H Q d s) : kT G w1 e σ H1 Q d s :=
  fun w' H' I x' => h w' H' I (x.trans x')
section
variable {X : Cx} {G : Gx}
theorem PE_imp {a : Expr} {t t' : TE} (h : PE X a t) (k : ∀ σ H Q, t' σ H Q → t σ H Q) : PE X a t' := ⟨fun pins s σ H Q I q => h.run pins s σ H Q I (k _ _ _ q)⟩
theorem PT_imp {a : Expr} {t t' : TT} (h : PT X a t) (k : ∀ σ H Q, t' σ H Q → t σ H Q) : PT X a t' := ⟨fun pins s σ H Q I q => h.run pins s σ H Q I (k _ _ _ q)⟩
theorem PW_imp {a : Expr} {t t' : TT} (h : PW X a t) (k : ∀ σ H Q, t' σ H Q → t σ H Q) : PW X a t' := ⟨fun wh pins s σ H Q I q => h.run wh pins s σ H Q I (k _ _ _ q)⟩
theorem PA_imp {a : List Expr} {t t' : TA} (h : PA X a t) (k : ∀ σ H Q, t' σ H Q → t σ H Q) : PA X a t' := ⟨fun pos pins s σ H Q I q => h.run pos pins s σ H Q I (k _ _ _ q)⟩
theorem PS_imp {a : Stmt} {t t' : TS} (h : PS X a t) (k : ∀ D σ H, t' D σ H → t D σ H) : PS X a t' := ⟨fun pins s σ H D I q => h.run pins s σ H D I (k _ _ _ q)⟩
theorem PSs_imp {a : List Stmt} {t t' : TS} (h : PSs X a t) (k : ∀ D σ H, t' D σ H → t D σ H) : PSs X a t' := ⟨fun pins s σ H D I q => h.run pins s σ H D I (k _ _ _ q)⟩
@[simp] def fVar (i : Nat) : FE := fun e s => match e[i]? with
  | some (.fz d) => .ok d s
  | _ => .bad
@[simp] def fC (d : Dat) : FE := fun _ s => .ok d s
theorem de_var (i : Nat) {x : Str} {pos : Pos} (hN : X.N[i]? = some x := by rfl) (hv : Vis X.env.scope x := by first | exact Or.inl rfl | exact Or.inr (Or.inl rfl) | exact Or.inr (Or.inr rfl)) (hd : (x == ("__debug__" : Str)) = false := by decide)
    (hcd : (x == ("__classdict__" : Str)) = false := by decide) : PE X (.Name x pos) (tE G (fVar i)) := PE_imp (pe_var (i := i) hN hv hd hcd) fun σ H Q ⟨w, e, s, I, h⟩ => by
  unfold fVar at h
  split at h
  · rename_i d hd
    obtain ⟨v, h1, h2⟩ := I.slot i d hd
    exact ⟨v, h1, h w v H I .refl h2⟩
  · exact h.elim
theorem de_c {a : Expr} {v : V} {d : Dat} (h : PE X a (tC v)) (hr : ∀ F as, Rp G.K as F d v) : PE X a (tE G (fC d)) := PE_imp h fun σ H Q ⟨w, e, s, I, h⟩ => h w v H I .refl (hr _ _)
theorem de_int {i j pos} : PE X (.Constant (.int i) j pos) (tE G (fC (.int i))) := de_c pe_int fun _ _ => by simp [Rp]
theorem de_bl {b j pos} : PE X (.Constant (.bool b) j pos) (tE G (fC (.bool b))) := de_c pe_bl fun _ _ => by simp [Rp]
theorem de_non {j pos} : PE X (.Constant .none j pos) (tE G (fC .none)) := de_c pe_non fun _ _ => by simp [Rp]
theorem de_str {x j pos} : PE X (.Constant (.str x) j pos) (tE G (fC (.str x))) := de_c pe_str fun _ _ => by simp [Rp]
theorem de_glob {x : Str} {v : V} {u : Value} {d : Dat} {pos : Pos} (hm : X.mg x = some u) (r : RelV v u) (hr : ∀ F as, Rp G.K as F d v) (hg : Gl X x := by rfl) (hd : (x == ("__debug__" : Str)) = false := by decide) : PE X (.Name x pos) (tE G (fC d)) :=
  de_c (pe_glob hg hm r hd) hr
@[simp] def fBin (g : Dat → Dat → Sto → Res Dat) (Fa Fb : FE) : FE := fun e s => (Fa e s).bind fun a s1 => (Fb e s1).bind fun b s2 => g a b s2
@[simp] def fUn (g : Dat → Sto → Res Dat) (Fa : FE) : FE := fun e s => (Fa e s).bind fun a s1 => g a s1
def OpD (G : Gx) (r : R2) (g : Dat → Dat → Sto → Res Dat) : Prop := ∀ w e s σ H x y a b Q, IE G w e s σ H → Rp G.K w.as (Fz w H) a x → Rp G.K w.as (Fz w H) b y → (g a b s).holds (kE G w e σ H Q) (kX G w e σ H) → r x y H Q
def UnD (G : Gx) (r : V → Hp → VK → Prop) (g : Dat → Sto → Res Dat) : Prop := ∀ w e s σ H x a Q, IE G w e s σ H → Rp G.K w.as (Fz w H) a x → (g a s).holds (kE G w e σ H Q) (kX G w e σ H) → r x H Q
def CallD (G : Gx) (r : List V → Hp → VK → Prop) (g : List Dat → Sto → Res Dat) : Prop := ∀ w e s σ H xs ds Q, IE G w e s σ H → RpL G.K w.as (Fz w H) ds xs → (g ds s).holds (kE G w e σ H Q) (kX G w e σ H) → r xs H Q
theorem tOp_of {r : R2} {g : Dat → Dat → Sto → Res Dat} {Fa Fb : FE} (hg : OpD G r g) {σ : L2.St} {H : Hp} {Q : VK} (h : tE G (fBin g Fa Fb) σ H Q) : tOp r (tE G Fa) (tE G Fb) σ H Q := by
  obtain ⟨w, e, s, I, h⟩ := h
  refine ⟨w, e, s, I, holds_imp (holds_bind h) fun a s1 h1 w1 x H1 I1 x1 r1 => ?_⟩
  refine ⟨w1, e, s1, I1, holds_imp (holds_bind h1) fun b s2 h2 w2 y H2 I2 x2 r2 => ?_⟩
  exact hg w2 e s2 σ H2 x y a b Q I2 (x2.rp r1) r2 (holds_imp h2 fun d s3 h3 => kE_ext (x1.trans x2) h3)
theorem de_bin {a b : Expr} {op : Operator} {pos : Pos} {r : R2} {g : Dat → Dat → Sto → Res Dat} {Fa Fb : FE} (ho : OpR X (binaryOp op) r) (hg : OpD G r g) (ha : PE X a (tE G Fa)) (hb : PE X b (tE G Fb)) : PE X (.BinOp a op b pos) (tE G (fBin g Fa Fb)) :=
  PE_imp (pe_op ho ha hb) fun _ _ _ h => tOp_of hg h
theorem de_cmp {a b : Expr} {op : CmpOp} {pos : Pos} {r : R2} {g : Dat → Dat → Sto → Res Dat} {Fa Fb : FE} (ho : OpR X (compareOp op) r) (hg : OpD G r g) (ha : PE X a (tE G Fa)) (hb : PE X b (tE G Fb)) (hm : behindInMarks op b = false := by first | exact nomark _ | with_unfolding_all rfl) :
    PE X (.Compare a [op] [b] pos) (tE G (fBin g Fa Fb)) := PE_imp (pe_cmpR ho ha hb hm) fun _ _ _ h => tOp_of hg h
theorem de_un {a : Expr} {op : UnaryOp} {pos : Pos} {r : V → Hp → VK → Prop} {g : Dat → Sto → Res Dat} {Fa : FE} (ho : UnR X (unaryOp op) r) (hg : UnD G r g) (ha : PE X a (tE G Fa)) : PE X (.UnaryOp op a pos) (tE G (fUn g Fa)) :=
  PE_imp (pe_un ho ha) fun σ H Q ⟨w, e, s, I, h⟩ => ⟨w, e, s, I, holds_imp (holds_bind h) fun a s1 h1 w1 x H1 I1 x1 r1 => hg w1 e s1 σ H1 x a Q I1 r1 (holds_imp h1 fun d s2 h2 => kE_ext x1 h2)⟩
theorem flat_ok {w : Wd} {e : Lcs} {s : Sto} {σ : L2.St} {H : Hp} {Q : VK} {d : Dat} {v : V} (I : IE G w e s σ H) {R : Dat → Sto → Prop} (h : (Res.ok d s).holds (kE G w e σ H Q) R) (hr : Rp G.K w.as (Fz w H) d v) : Q v H := h w v H I .refl hr
theorem OpD.or {r r' : R2} {g : Dat → Dat → Sto → Res Dat} (h : ∀ w e s σ H x y a b Q, IE G w e s σ H → Rp G.K w.as (Fz w H) a x → Rp G.K w.as (Fz w H) b y → (g a b s).holds (kE G w e σ H Q) (kX G w e σ H) → r x y H Q ∨ r' x y H Q) : OpD G (fun x y H Q => r x y H Q ∨ r' x y H Q) g := h
@[simp] def gII (C : Int → Int → Bool) (f : Int → Int → Int) : Dat → Dat → Sto → Res Dat := fun a b s => match a, b with
  | .int i, .int j => if C i j then .ok (.int (f i j)) s else .bad
  | _, _ => .bad
@[simp] def gII0 (f : Int → Int → Int) : Dat → Dat → Sto → Res Dat := fun a b s => match a, b with
  | .int i, .int j => .ok (.int (f i j)) s
  | _, _ => .bad
@[simp] def gIB (f : Int → Int → Bool) : Dat → Dat → Sto → Res Dat := fun a b s => match a, b with
  | .int i, .int j => .ok (.bool (f i j)) s
  | _, _ => .bad
theorem rp_int {K as F} {i : Int} {v : V} (h : Rp K as F (.int i) v) : v = .int i := by simpa [Rp] using h
theorem rp_bool {K as F} {i : Bool} {v : V} (h : Rp K as F (.bool i) v) : v = .bl i := by simpa [Rp] using h
theorem rp_str {K as F} {i : Str} {v : V} (h : Rp K as F (.str i) v) : v = .str i := by simpa [Rp] using h
theorem rp_none {K as F} {v : V} (h : Rp K as F .none v) : v = .non := by simpa [Rp] using h
theorem rp_list {K as F} {ds : List Dat} {v : V} (h : Rp K as F (.list ds) v) : ∃ a xs, v = .ref a ∧ F a = some (.lst xs) ∧ RpL K as F ds xs := by simpa only [Rp] using h
theorem rp_tuple {K as F} {ds : List Dat} {v : V} (h : Rp K as F (.tuple ds) v) : ∃ a xs, v = .ref a ∧ SqT K F a xs ∧ RpL K as F ds xs := by simpa only [Rp] using h
theorem rp_i {K as F} {i : Int} : Rp K as F (.int i) (.int i) := by simp [Rp]
theorem rp_b {K as F} {i : Bool} : Rp K as F (.bool i) (.bl i) := by simp [Rp]
theorem rp_s {K as F} {i : Str} : Rp K as F (.str i) (.str i) := by simp [Rp]
theorem rp_n {K as F} : Rp K as F .none .non := by simp [Rp]
theorem opII {C : Int → Int → Prop} {C' : Int → Int → Bool} {f : Int → Int → Int} (hc : ∀ i j, C' i j = true → C i j) : OpD G (rI C fun i j => .int (f i j)) (gII C' f) := by
  intro w e s σ H x y a b Q I ra rb h
  unfold gII at h
  split at h
  · rename_i i j
    split at h
    · rename_i c
      exact ⟨i, j, rp_int ra, rp_int rb, hc i j c, flat_ok I h rp_i⟩
    · exact h.elim
  · exact h.elim
theorem opII0 {f : Int → Int → Int} : OpD G (rI0 fun i j => .int (f i j)) (gII0 f) := by
  intro w e s σ H x y a b Q I ra rb h
  unfold gII0 at h
  split at h
  · rename_i i j
    exact ⟨i, j, rp_int ra, rp_int rb, flat_ok I h rp_i⟩
  · exact h.elim
theorem opIB {f : Int → Int → Bool} : OpD G (rI0 fun i j => .bl (f i j)) (gIB f) := by
  intro w e s σ H x y a b Q I ra rb h
  unfold gIB at h
  split at h
  · rename_i i j
    exact ⟨i, j, rp_int ra, rp_int rb, flat_ok I h rp_b⟩
  · exact h.elim
def cMul (i j : Int) : Bool := decide (i.natAbs.log2 + j.natAbs.log2 < 1000000)
def cDiv (i j : Int) : Bool := decide (0 < j) && decide (j.natAbs.log2 < 9000)
def cMod (i j : Int) : Bool := decide (0 < j)
def cPow (i j : Int) : Bool := decide (0 ≤ j) && decide (j ≤ 1000000) && decide (i.natAbs < 2 ^ 64)
section
variable {a b : Expr} {pos : Pos} {Fa Fb : FE}
theorem de_sub (ha : PE X a (tE G Fa)) (hb : PE X b (tE G Fb)) : PE X (.BinOp a .Sub b pos) (tE G (fBin (gII0 (· - ·)) Fa Fb)) := de_bin op_sub opII0 ha hb
theorem de_fdiv (ha : PE X a (tE G Fa)) (hb : PE X b (tE G Fb)) : PE X (.BinOp a .FloorDiv b pos) (tE G (fBin (gII cDiv (· / ·)) Fa Fb)) := de_bin op_fdivW (opII fun i j h => by
  unfold cDiv at h
  rw [Bool.and_eq_true] at h
  exact ⟨of_decide_eq_true h.1, of_decide_eq_true h.2⟩) ha hb
theorem de_mod (ha : PE X a (tE G Fa)) (hb : PE X b (tE G Fb)) : PE X (.BinOp a .Mod b pos) (tE G (fBin (gII cMod (· % ·)) Fa Fb)) := de_bin op_mod (opII fun i j h => of_decide_eq_true h) ha hb
theorem de_pow (ha : PE X a (tE G Fa)) (hb : PE X b (tE G Fb)) : PE X (.BinOp a .Pow b pos) (tE G (fBin (gII cPow fun i j => i ^ j.toNat) Fa Fb)) := de_bin op_pow (opII fun i j h => by
  unfold cPow at h
  rw [Bool.and_eq_true, Bool.and_eq_true] at h
  exact ⟨of_decide_eq_true h.1.1, of_decide_eq_true h.1.2, of_decide_eq_true h.2⟩) ha hb
end
mutual
theorem dp_of {K as F} : ∀ (d : Dat) (v : V), d.canLay0 = true → Rp K as F d v → Dp K F v d
  | .none, v, _, h => by rw [rp_none h]; exact .non
  | .bool b, v, _, h => by rw [rp_bool h]; exact .bl b
  | .int i, v, _, h => by rw [rp_int h]; exact .int i
  | .str x, v, _, h => by rw [rp_str h]; exact .str x
  | .list ds, v, c, h => by
    obtain ⟨a, xs, rfl, q, r⟩ := rp_list h
    exact .lst (.inl (.inl q)) (dpA_of ds xs (by simpa [PyData.canLay0] using c) r)
  | .tuple ds, v, c, h => by
    obtain ⟨a, xs, rfl, q, r⟩ := rp_tuple h
    exact .tup q (dpA_of ds xs (by simpa [PyData.canLay0] using c) r)
  | .dict _, v, c, h => by simp [PyData.canLay0] at c
theorem dpA_of {K as F} : ∀ (ds : List Dat) (vs : List V), PyData.canLayAll0 ds = true → RpL K as F ds vs → DpAll K F vs ds
  | [], [], _, _ => .nil
  | d :: ds, v :: vs, c, h => by
    simp only [PyData.canLayAll0, Bool.and_eq_true] at c
    simp only [RpL] at h
    exact .cons (dp_of d v c.1 h.1) (dpA_of ds vs c.2 h.2)
  | [], _ :: _, _, h => by simp [RpL] at h
  | _ :: _, [], _, h => by simp [RpL] at h
end
mutual
theorem Dp_mono {K : PySem.W.Frag} {F F' : Hp} (hs : Same F F') : ∀ (d : Dat) (v : V), Dp K F v d → Dp K F' v d
  | .none, v, h => by cases h; exact .non
  | .bool b, v, h => by cases h; exact .bl b
  | .int i, v, h => by cases h; exact .int i
  | .str x, v, h => by cases h; exact .str x
  | .list ds, v, h => by
    cases h with
    | lst q r => exact .lst (sqL_mono hs q) (DpA_mono hs ds _ r)
  | .tuple ds, v, h => by
    cases h with
    | tup q r => exact .tup (sqT_mono hs q) (DpA_mono hs ds _ r)
  | .dict _, v, h => by cases h
theorem DpA_mono {K : PySem.W.Frag} {F F' : Hp} (hs : Same F F') : ∀ (ds : List Dat) (vs : List V), DpAll K F vs ds → DpAll K F' vs ds
  | [], vs, h => by cases h; exact .nil
  | d :: ds, vs, h => by
    cases h with
    | cons q r => exact .cons (Dp_mono hs d _ q) (DpA_mono hs ds _ r)
end
def gEq : Dat → Dat → Sto → Res Dat := fun a b s => if SeqAt.shaped a && SeqAt.shaped b then .ok (.bool (PyData.eqv a b)) s else .bad
def gNe : Dat → Dat → Sto → Res Dat := fun a b s => if SeqAt.shaped a && SeqAt.shaped b then .ok (.bool (!PyData.eqv a b)) s else .bad
theorem opEq : OpD G (rEqD G.K) gEq := by
  intro w e s σ H x y a b Q I ra rb h
  unfold gEq at h
  split at h
  · rename_i c
    rw [Bool.and_eq_true] at c
    exact ⟨a, b, Dp_mono Fz_sub _ _ (dp_of a x (SeqAt.canLay_of_shaped c.1) ra), Dp_mono Fz_sub _ _ (dp_of b y (SeqAt.canLay_of_shaped c.2) rb), c.1, c.2, flat_ok I h rp_b⟩
  · exact h.elim
theorem opNe : OpD G (rNeD G.K) gNe := by
  intro w e s σ H x y a b Q I ra rb h
  unfold gNe at h
  split at h
  · rename_i c
    rw [Bool.and_eq_true] at c
    exact ⟨a, b, Dp_mono Fz_sub _ _ (dp_of a x (SeqAt.canLay_of_shaped c.1) ra), Dp_mono Fz_sub _ _ (dp_of b y (SeqAt.canLay_of_shaped c.2) rb), c.1, c.2, flat_ok I h rp_b⟩
  · exact h.elim
section
variable {a b : Expr} {pos : Pos} {Fa Fb : FE}
theorem de_eq (hu : X.A.units + 64 < cLine) (hK : X.K = G.K) (ha : PE X a (tE G Fa)) (hb : PE X b (tE G Fb)) : PE X (.Compare a [.Eq] [b] pos) (tE G (fBin gEq Fa Fb)) := de_cmp (op_eqD hu) (by rw [hK]; exact opEq) ha hb
theorem de_ne (hu : X.A.units + 64 < cLine) (hK : X.K = G.K) (ha : PE X a (tE G Fa)) (hb : PE X b (tE G Fb)) : PE X (.Compare a [.NotEq] [b] pos) (tE G (fBin gNe Fa Fb)) := de_cmp (op_neD hu) (by rw [hK]; exact opNe) ha hb
end
@[simp] def gNeg : Dat → Sto → Res Dat := fun a s => match a with
  | .int i => .ok (.int (-i)) s
  | _ => .bad
theorem de_neg {a : Expr} {pos : Pos} {Fa : FE} (ha : PE X a (tE G Fa)) : PE X (.UnaryOp .USub a pos) (tE G (fUn gNeg Fa)) := de_un un_neg (fun w e s σ H x a Q I ra h => by
  unfold gNeg at h
  split at h
  · rename_i i
    exact ⟨i, rp_int ra, flat_ok I h rp_i⟩
  · exact h.elim) ha
@[simp] def fB (F : FE) : FT := fun e s => (F e s).bind fun d s' => match d with
  | .bool b => .ok b s'
  | _ => .bad
theorem tB_of {F : FE} {σ : L2.St} {H : Hp} {Q : Bool → Hp → Prop} (h : tT G (fB F) σ H Q) : tB (tE G F) σ H Q := by
  obtain ⟨w, e, s, I, h⟩ := h
  refine ⟨w, e, s, I, holds_imp (holds_bind h) fun d s1 h1 w1 x H1 I1 x1 r1 => ?_⟩
  split at h1
  · rename_i b
    exact ⟨b, rp_bool r1, h1 w1 H1 I1 x1⟩
  · exact h1.elim
theorem dt_val {a : Expr} {F : FE} (h : PE X a (tE G F)) (he : ∀ whole, isTrue a X.env whole = (do let v ← whole; standAt a.pos; holding [v] (truthy v)) := by intro _; rfl) : PT X a (tT G (fB F)) := PT_imp (pt_val h he) fun _ _ _ h => tB_of h
theorem dt_cmp {a b : Expr} {op : CmpOp} {pos : Pos} {r : R2} {g : Dat → Dat → Sto → Res Dat} {Fa Fb : FE} (ho : OpR X (compareOp op) r) (hg : OpD G r g) (ha : PE X a (tE G Fa)) (hb : PE X b (tE G Fb)) (hm : behindInMarks op b = false := by first | exact nomark _ | with_unfolding_all rfl) :
    PT X (.Compare a [op] [b] pos) (tT G (fB (fBin g Fa Fb))) := PT_imp (pt_cmpR ho ha hb hm) fun σ H Q h => by
  obtain ⟨w, e, s, I, h⟩ := h
  show tOp r (tE G Fa) (tE G Fb) σ H fun x H' => ∃ k, x = .bl k ∧ Q k H'
  refine tOp_of hg ⟨w, e, s, I, holds_imp (holds_bind h) fun d s1 h1 w1 x H1 I1 x1 r1 => ?_⟩
  split at h1
  · rename_i b
    exact ⟨b, rp_bool r1, h1 w1 H1 I1 x1⟩
  · exact h1.elim
section
variable {a b : Expr} {pos : Pos} {Fa Fb : FE}
theorem dt_eq (hu : X.A.units + 64 < cLine) (hK : X.K = G.K) (ha : PE X a (tE G Fa)) (hb : PE X b (tE G Fb)) : PT X (.Compare a [.Eq] [b] pos) (tT G (fB (fBin gEq Fa Fb))) := dt_cmp (op_eqD hu) (by rw [hK]; exact opEq) ha hb
theorem dt_ne (hu : X.A.units + 64 < cLine) (hK : X.K = G.K) (ha : PE X a (tE G Fa)) (hb : PE X b (tE G Fb)) : PT X (.Compare a [.NotEq] [b] pos) (tT G (fB (fBin gNe Fa Fb))) := dt_cmp (op_neD hu) (by rw [hK]; exact opNe) ha hb
end
@[simp] def fAnd (Fa Fb : FT) : FT := fun e s => (Fa e s).bind fun a s1 => if a then Fb e s1 else .ok false s1
@[simp] def fOr (Fa Fb : FT) : FT := fun e s => (Fa e s).bind fun a s1 => if a then .ok true s1 else Fb e s1
@[simp] def fNot (Fa : FT) : FT := fun e s => (Fa e s).bind fun a s1 => .ok (!a) s1
section
variable {a b : Expr} {rest : List Expr} {pos : Pos} {Fa Fb : FT}
theorem tAnd_of {σ : L2.St} {H : Hp} {Q : Bool → Hp → Prop} (h : tT G (fAnd Fa Fb) σ H Q) : tAnd (tT G Fa) (tT G Fb) σ H Q := by
  obtain ⟨w, e, s, I, h⟩ := h
  refine ⟨w, e, s, I, holds_imp (holds_bind h) fun d s1 h1 w1 H1 I1 x1 => ?_⟩
  cases d with
  | true => exact iteT ⟨w1, e, s1, I1, holds_imp h1 fun _ _ h2 => kT_ext x1 h2⟩
  | false => exact iteF (h1 w1 H1 I1 x1)
theorem tOr_of {σ : L2.St} {H : Hp} {Q : Bool → Hp → Prop} (h : tT G (fOr Fa Fb) σ H Q) : tOr (tT G Fa) (tT G Fb) σ H Q := by
  obtain ⟨w, e, s, I, h⟩ := h
  refine ⟨w, e, s, I, holds_imp (holds_bind h) fun d s1 h1 w1 H1 I1 x1 => ?_⟩
  cases d with
  | false => exact iteF ⟨w1, e, s1, I1, holds_imp h1 fun _ _ h2 => kT_ext x1 h2⟩
  | true => exact iteT (h1 w1 H1 I1 x1)
theorem dw_and1 (ha : PT X a (tT G Fa)) : PW X (.BoolOp .And [a] pos) (tT G Fa) := pw_and1 ha
theorem dw_or1 (ha : PT X a (tT G Fa)) : PW X (.BoolOp .Or [a] pos) (tT G Fa) := pw_or1 ha
theorem dw_and (ha : PT X a (tT G Fa)) (hb : PW X (.BoolOp .And (b :: rest) pos) (tT G Fb)) : PW X (.BoolOp .And (a :: b :: rest) pos) (tT G (fAnd Fa Fb)) := PW_imp (pw_and ha hb) fun _ _ _ h => tAnd_of h
theorem dw_or (ha : PT X a (tT G Fa)) (hb : PW X (.BoolOp .Or (b :: rest) pos) (tT G Fb)) : PW X (.BoolOp .Or (a :: b :: rest) pos) (tT G (fOr Fa Fb)) := PW_imp (pw_or ha hb) fun _ _ _ h => tOr_of h
theorem dt_bool (h : PW X a (tT G Fa)) : PT X a (tT G Fa) := h.pt
theorem dt_not (ha : PT X a (tT G Fa)) : PT X (.UnaryOp .Not a pos) (tT G (fNot Fa)) := PT_imp (pt_not ha) fun σ H Q ⟨w, e, s, I, h⟩ => ⟨w, e, s, I, holds_imp (holds_bind h) fun d s1 h1 w1 H1 I1 x1 => h1 w1 H1 I1 x1⟩
end
@[simp] def fAndV (Fa Fb : FE) : FE := fun e s => (fB Fa e s).bind fun a s1 => if a then Fb e s1 else .ok (.bool false) s1
@[simp] def fOrV (Fa Fb : FE) : FE := fun e s => (fB Fa e s).bind fun a s1 => if a then .ok (.bool true) s1 else Fb e s1
@[simp] def fNotV (Fa : FE) : FE := fun e s => (fB Fa e s).bind fun a s1 => .ok (.bool (!a)) s1
section
variable {a b : Expr} {rest : List Expr} {pos : Pos} {Fa Fb : FE}
theorem de_one {op : BoolOp} (h : PE X a (tE G Fa)) : PE X (.BoolOp op [a] pos) (tE G Fa) := pe_one h
theorem de_and (ha : PE X a (tE G Fa)) (hb : PE X (.BoolOp .And (b :: rest) pos) (tE G Fb)) : PE X (.BoolOp .And (a :: b :: rest) pos) (tE G (fAndV Fa Fb)) := PE_imp (pe_and ha hb) fun σ H Q ⟨w, e, s, I, h⟩ => by
  refine ⟨w, e, s, I, holds_imp (holds_bind (holds_bind h)) fun d s1 h1 w1 x H1 I1 x1 r1 => ?_⟩
  split at h1
  · rename_i c
    refine ⟨c, rp_bool r1, ?_⟩
    cases c with
    | true => exact iteT ⟨w1, e, s1, I1, holds_imp h1 fun _ _ h2 => kE_ext x1 h2⟩
    | false => exact iteF (h1 w1 _ H1 I1 x1 rp_b)
  · exact h1.elim
theorem de_not (ha : PE X a (tE G Fa)) : PE X (.UnaryOp .Not a pos) (tE G (fNotV Fa)) := PE_imp (pe_not ha) fun σ H Q ⟨w, e, s, I, h⟩ => by
  refine ⟨w, e, s, I, holds_imp (holds_bind (holds_bind h)) fun d s1 h1 w1 x H1 I1 x1 r1 => ?_⟩
  split at h1
  · rename_i c
    exact ⟨c, rp_bool r1, h1 w1 _ H1 I1 x1 rp_b⟩
  · exact h1.elim
@[simp] def fIf (Fc : FT) (Fa Fb : FE) : FE := fun e s => (Fc e s).bind fun c s1 => if c then Fa e s1 else Fb e s1
theorem de_if {c : Expr} {Fc : FT} (hc : PT X c (tT G Fc)) (ha : PE X a (tE G Fa)) (hb : PE X b (tE G Fb)) : PE X (.IfExp c a b pos) (tE G (fIf Fc Fa Fb)) := PE_imp (pe_ifExp hc ha hb) fun σ H Q ⟨w, e, s, I, h⟩ => by
  refine ⟨w, e, s, I, holds_imp (holds_bind h) fun d s1 h1 w1 H1 I1 x1 => ?_⟩
  cases d with
  | true => exact iteT ⟨w1, e, s1, I1, holds_imp h1 fun _ _ h2 => kE_ext x1 h2⟩
  | false => exact iteF ⟨w1, e, s1, I1, holds_imp h1 fun _ _ h2 => kE_ext x1 h2⟩
end
@[simp] def fNil : FA := fun _ s => .ok [] s
@[simp] def fCons (Fa : FE) (Fr : FA) : FA := fun e s => (Fa e s).bind fun a s1 => (Fr e s1).bind fun r s2 => .ok (a :: r) s2
theorem da_nil : PA X [] (tA G fNil) := PA_imp pa_nil fun σ H Q ⟨w, e, s, I, h⟩ => h w [] H I .refl RpL.nil
theorem da_cons {a : Expr} {r : List Expr} {Fa : FE} {Fr : FA} (ha : PE X a (tE G Fa)) (hr : PA X r (tA G Fr)) (hs : starEach (a :: r) X.env = (false, eval a X.env) :: starEach r X.env := by rfl) : PA X (a :: r) (tA G (fCons Fa Fr)) :=
  PA_imp (pa_cons ha hr hs) fun σ H Q ⟨w, e, s, I, h⟩ => by
    refine ⟨w, e, s, I, holds_imp (holds_bind h) fun a s1 h1 w1 x H1 I1 x1 r1 => ?_⟩
    refine ⟨w1, e, s1, I1, holds_imp (holds_bind h1) fun as s2 h2 w2 xs H2 I2 x2 r2 => ?_⟩
    exact h2 w2 (x :: xs) H2 I2 (x1.trans x2) (RpL.cons (x2.rp r1) r2)
@[simp] def cLen {α : Type} (ds : List α) : Bool := decide (ds.length ≤ sizeLine)
@[simp] def fTup (Fs : FA) : FE := fun e s => (Fs e s).bind fun ds s1 => if cLen ds then .ok (.tuple ds) s1 else .bad
@[simp] def fLst (Fs : FA) : FE := fun e s => (Fs e s).bind fun ds s1 => if cLen ds then .ok (.list ds) s1 else .bad
theorem new_list {w : Wd} {e : Lcs} {s : Sto} {σ : L2.St} {H : Hp} {Q : VK} {ds : List Dat} {vs : List V} {p : Addr} (I : IE G w e s σ H) (r : RpL G.K w.as (Fz w H) ds vs) (h : kE G w e σ H Q (.list ds) s) (hp : H p = none) : Q (.ref p) (upd H p (.lst vs)) :=
  h w _ _ (I.new hp) (I.newE hp) (by
    simp only [Rp]
    exact ⟨p, vs, rfl, I.newF hp, (I.newE hp).rpl r⟩)
theorem new_tuple {w : Wd} {e : Lcs} {s : Sto} {σ : L2.St} {H : Hp} {Q : VK} {ds : List Dat} {vs : List V} {p : Addr} (I : IE G w e s σ H) (r : RpL G.K w.as (Fz w H) ds vs) (h : kE G w e σ H Q (.tuple ds) s) (hp : H p = none) : Q (.ref p) (upd H p (.tup vs)) :=
  h w _ _ (I.new hp) (I.newE hp) (by
    simp only [Rp]
    exact ⟨p, vs, rfl, .inl (.inl (I.newF hp)), (I.newE hp).rpl r⟩)
section
variable {es : List Expr} {pos : Pos} {Fs : FA}
theorem de_tup {x1} (h : PA X es (tA G Fs)) : PE X (.Tuple es x1 pos) (tE G (fTup Fs)) := PE_imp (pe_tup h) fun σ H Q ⟨w, e, s, I, h⟩ => by
  refine ⟨w, e, s, I, holds_imp (holds_bind h) fun ds s1 h1 w1 xs H1 I1 x1 r1 => ?_⟩
  split at h1
  · rename_i c
    exact ⟨by rw [r1.length]; exact of_decide_eq_true c, fun p hp => new_tuple I1 r1 (kE_ext x1 h1) hp⟩
  · exact h1.elim
theorem de_lst (h : PA X es (tA G Fs)) : PE X (.List es pos) (tE G (fLst Fs)) := PE_imp (pe_lst h) fun σ H Q ⟨w, e, s, I, h⟩ => by
  refine ⟨w, e, s, I, holds_imp (holds_bind h) fun ds s1 h1 w1 xs H1 I1 x1 r1 => ?_⟩
  split at h1
  · rename_i c
    exact ⟨by rw [r1.length]; exact of_decide_eq_true c, fun p hp => new_list I1 r1 (kE_ext x1 h1) hp⟩
  · exact h1.elim
end
@[simp] def gIx : Dat → Dat → Sto → Res Dat := fun a b s => match b with
  | .int i => match a with
    | .list ds => match atI ds i with
      | some d => .ok d s
      | none => .bad
    | .tuple ds => match atI ds i with
      | some d => .ok d s
      | none => .bad
    | .str z => if z.length ≤ sizeLine then match atI z.cps.toList i with
      | some c => .ok (.str ⟨#[c]⟩) s
      | none => .bad else .bad
    | .dict [(.int n, .none)] => match s[n.toNat]? with
      | some (.ls ds) => match atI ds i with
        | some d => .ok d s
        | none => .bad
      | _ => .bad
    | _ => .bad
  | _ => .bad
theorem atI_rp {K as F} {ds : List Dat} {vs : List V} {i : Int} {d : Dat} (r : RpL K as F ds vs) (h : atI ds i = some d) : ∃ v, atI vs i = some v ∧ Rp K as F d v := by
  unfold atI at h ⊢
  rw [r.length]
  cases e : ixN ds.length i with
  | none => rw [e] at h; cases h
  | some j =>
    rw [e] at h
    have h' : ds[j]? = some d := h
    obtain ⟨v, h1, h2⟩ := r.get' h'
    exact ⟨v, h1, h2⟩
theorem opIx : OpD G (rIx G.K) gIx := by
  intro w e s σ H x y a b Q I ra rb h
  unfold gIx at h
  split at h
  · rename_i i
    split at h
    · rename_i ds
      obtain ⟨p, xs, rfl, q, r⟩ := rp_list ra
      split at h
      · rename_i d hd
        obtain ⟨v, h1, h2⟩ := atI_rp r hd
        exact .inl ⟨p, xs, i, v, rfl, rp_int rb, .inl (.inl (Fz_sub _ _ q)), h1, flat_ok I h h2⟩
      · exact h.elim
    · rename_i ds
      obtain ⟨p, xs, rfl, q, r⟩ := rp_tuple ra
      split at h
      · rename_i d hd
        obtain ⟨v, h1, h2⟩ := atI_rp r hd
        exact .inr (.inl ⟨p, xs, i, v, rfl, rp_int rb, sqT_mono Fz_sub q, h1, flat_ok I h h2⟩)
      · exact h.elim
    · rename_i z
      split at h
      · rename_i hz
        split at h
        · rename_i c hc
          exact .inr (.inr ⟨z, i, c, rp_str ra, rp_int rb, hz, hc, flat_ok I h rp_s⟩)
        · exact h.elim
      · exact h.elim
    · rename_i n
      split at h
      · rename_i ds hs
        split at h
        · rename_i d hd
          have ra' : ∃ a, x = .ref a ∧ w.as[n.toNat]? = some a := by simpa [Rp] using ra
          obtain ⟨p, rfl, hp⟩ := ra'
          obtain ⟨a', vs, e1, e2, e3⟩ := I.cellL hs
          rw [hp] at e1; cases e1
          obtain ⟨v, h1, h2⟩ := atI_rp e3 hd
          exact .inl ⟨p, vs, i, v, rfl, rp_int rb, .inl (.inl e2), h1, flat_ok I h h2⟩
        · exact h.elim
      · exact h.elim
    · exact h.elim
  · exact h.elim
end
end DL
namespace DL
open PySem PySem.Spec PyProof.Rows L2
section
variable {X : Cx} {G : Gx}
@[simp] def gAdd : Dat → Dat → Sto → Res Dat := fun a b s => match a, b with
  | .int i, .int j => .ok (.int (i + j)) s
  | .str x, .str y => if x.length + y.length ≤ sizeLine then .ok (.str (x ++ y)) s else .bad
  | .list xs, .list ys => if xs.length + ys.length ≤ sizeLine then .ok (.list (xs ++ ys)) s else .bad
  | .tuple xs, .tuple ys => if xs.length + ys.length ≤ sizeLine then .ok (.tuple (xs ++ ys)) s else .bad
  | _, _ => .bad
def rAdd (K : PySem.W.Frag) : R2 := fun x y H Q => rI0 (fun i j => .int (i + j)) x y H Q ∨ (∃ i j, x = .str i ∧ y = .str j ∧ i.length + j.length ≤ sizeLine ∧ Q (.str (i ++ j)) H) ∨ rCat x y H Q ∨ rCatA K x y H Q
theorem op_addA : OpR X (binaryOp .Add) (rAdd X.K) := op_add.or (op_add_str.or (op_cat.or op_catA))
theorem opAdd : OpD G (rAdd G.K) gAdd := by
  intro w e s σ H x y a b Q I ra rb h
  unfold gAdd at h
  split at h
  · rename_i i j
    exact .inl ⟨i, j, rp_int ra, rp_int rb, flat_ok I h rp_i⟩
  · rename_i i j
    split at h
    · rename_i c
      exact .inr (.inl ⟨i, j, rp_str ra, rp_str rb, c, flat_ok I h rp_s⟩)
    · exact h.elim
  · split at h
    · rename_i c
      obtain ⟨p, xs, rfl, hp, rx⟩ := rp_list ra
      obtain ⟨q, ys, rfl, hq, ry⟩ := rp_list rb
      exact .inr (.inr (.inl ⟨p, q, xs, ys, rfl, rfl, Fz_sub _ _ hp, Fz_sub _ _ hq, by rw [rx.length, ry.length]; exact c, fun l hl => new_list I (rx.append ry) h hl⟩))
    · exact h.elim
  · split at h
    · rename_i c
      obtain ⟨p, xs, rfl, hp, rx⟩ := rp_tuple ra
      obtain ⟨q, ys, rfl, hq, ry⟩ := rp_tuple rb
      refine .inr (.inr (.inr ⟨p, q, xs, ys, rfl, rfl, sqT_mono Fz_sub hp, sqT_mono Fz_sub hq, by rw [rx.length, ry.length]; exact c, fun z => ?_, fun _ z => ?_, fun _ _ l hl => new_tuple I (rx.append ry) h hl⟩))
      · refine flat_ok I h ?_
        have e : xs = [] := z
        subst e
        have e2 := rx.length
        have e3 := List.eq_nil_of_length_eq_zero e2.symm
        subst e3
        exact rb
      · refine flat_ok I h ?_
        have e : ys = [] := z
        subst e
        have e2 := ry.length
        have e3 := List.eq_nil_of_length_eq_zero e2.symm
        subst e3
        rw [List.append_nil]
        exact ra
    · exact h.elim
  · exact h.elim
theorem de_add {a b : Expr} {pos : Pos} {Fa Fb : FE} (hK : X.K = G.K) (ha : PE X a (tE G Fa)) (hb : PE X b (tE G Fb)) : PE X (.BinOp a .Add b pos) (tE G (fBin gAdd Fa Fb)) := de_bin op_addA (by rw [hK]; exact opAdd) ha hb
abbrev FO := Lcs → Sto → Res (Option Int)
def kO (G : Gx) (w : Wd) (e : Lcs) (σ : L2.St) (H : Hp) (Q : Option Int → Hp → Prop) : Option Int → Sto → Prop := fun b s' => ∀ w' H', IE G w' e s' σ H' → EExt w H w' H' → Q b H'
def tO (G : Gx) (F : FO) : L2.TO := fun σ H Q => ∃ w e s, IE G w e s σ H ∧ (F e s).holds (kO G w e σ H Q) (kX G w e σ H)
@[simp] def fNo : FO := fun _ s => .ok none s
@[simp] def fSome (Fa : FE) : FO := fun e s => (Fa e s).bind fun d s1 => match d with
  | .int i => .ok (some i) s1
  | _ => .bad
theorem PO_imp {a : Option Expr} {t t' : L2.TO} (h : PO X a t) (k : ∀ σ H Q, t' σ H Q → t σ H Q) : PO X a t' := ⟨fun pins s σ H Q I q => h.run pins s σ H Q I (k _ _ _ q)⟩
theorem do_none : PO X none (tO G fNo) := PO_imp po_none fun σ H Q ⟨w, e, s, I, h⟩ => h w H I .refl
theorem do_some {a : Expr} {Fa : FE} (ha : PE X a (tE G Fa)) : PO X (some a) (tO G (fSome Fa)) := PO_imp (po_some ha) fun σ H Q ⟨w, e, s, I, h⟩ => by
  refine ⟨w, e, s, I, holds_imp (holds_bind h) fun d s1 h1 w1 x H1 I1 x1 r1 => ?_⟩
  split at h1
  · rename_i i
    exact ⟨i, rp_int r1, h1 w1 H1 I1 x1⟩
  · exact h1.elim
def cutD (xs : List Dat) (lo hi : Option Int) : List Dat := (xs.drop (HT.sIx xs.length 0 lo)).take (HT.sIx xs.length xs.length hi - HT.sIx xs.length 0 lo)
@[simp] def gSl : Dat → Option Int → Option Int → Sto → Res Dat := fun d lo hi s => match d with
  | .list ds => .ok (.list (cutD ds lo hi)) s
  | .tuple ds => .ok (.tuple (cutD ds lo hi)) s
  | .str z => if z.length ≤ sizeLine then .ok (.str (cutS z lo hi)) s else .bad
  | .dict [(.none, .list ds)] => .ok (.list (cutD ds lo hi)) s
  | _ => .bad
@[simp] def fSl (Fa : FE) (Fl Fh : FO) : FE := fun e s => (Fa e s).bind fun d s1 => (Fl e s1).bind fun l s2 => (Fh e s2).bind fun u s3 => gSl d l u s3
def rSl (K : PySem.W.Frag) : V → Option Int → Option Int → Hp → VK → Prop := fun x lo hi H Q => rSlL K x lo hi H Q ∨ rSlA K x lo hi H Q ∨ rSlS x lo hi H Q
theorem sl_all : SlR X (rSl X.K) := sl_list.or (sl_tupA.or sl_str)
theorem cut_rp {K as F} {ds : List Dat} {vs : List V} (lo hi : Option Int) (r : RpL K as F ds vs) : RpL K as F (cutD ds lo hi) (cutV vs lo hi) := by
  unfold cutD cutV
  rw [r.length]
  exact (r.drop _).take _
theorem rpl_ints {K as F} : ∀ ns : List Int, RpL K as F (ns.map PyData.int) (ns.map V.int)
  | [] => RpL.nil
  | n :: ns => RpL.cons rp_i (rpl_ints ns)
theorem cut_whole {xs : List Dat} {lo hi : Option Int} (h1 : HT.sIx xs.length 0 lo = 0) (h2 : HT.sIx xs.length xs.length hi = xs.length) : cutD xs lo hi = xs := by
  unfold cutD
  rw [h1, h2]
  simp
theorem opSl {w : Wd} {e : Lcs} {s : Sto} {σ : L2.St} {H : Hp} {Q : VK} {d : Dat} {x : V} {lo hi : Option Int} (I : IE G w e s σ H) (r : Rp G.K w.as (Fz w H) d x) (h : (gSl d lo hi s).holds (kE G w e σ H Q) (kX G w e σ H)) : rSl G.K x lo hi H Q := by
  unfold gSl at h
  split at h
  · obtain ⟨p, xs, rfl, hp, rx⟩ := rp_list r
    exact .inl ⟨p, xs, rfl, .inl (.inl (Fz_sub _ _ hp)), fun l hl => new_list I (cut_rp lo hi rx) h hl⟩
  · rename_i ds
    obtain ⟨p, xs, rfl, hp, rx⟩ := rp_tuple r
    refine .inr (.inl ⟨p, xs, rfl, sqT_mono Fz_sub hp, fun z => ?_, fun _ l hl => new_tuple I (cut_rp lo hi rx) h hl⟩)
    refine flat_ok I h ?_
    rw [rx.length] at z
    rw [cut_whole z.1 z.2]
    exact r
  · split at h
    · rename_i c
      exact .inr (.inr ⟨_, rp_str r, c, flat_ok I h rp_s⟩)
    · exact h.elim
  · rename_i ds
    have r' : ∃ (a : Addr) (ns : List Int), x = .ref a ∧ ds = ns.map PyData.int ∧ SqL G.K (Fz w H) a (ns.map V.int) := by simpa [Rp] using r
    obtain ⟨p, ns, rfl, rfl, q⟩ := r'
    exact .inl ⟨p, _, rfl, sqL_mono Fz_sub q, fun l hl => new_list I (cut_rp lo hi (rpl_ints ns)) h hl⟩
  · exact h.elim
theorem de_slice {a : Expr} {lo hi : Option Expr} {pos p2 : Pos} {Fa : FE} {Fl Fh : FO} (hK : X.K = G.K) (ha : PE X a (tE G Fa)) (hl : PO X lo (tO G Fl)) (hh : PO X hi (tO G Fh)) : PE X (.Subscript a (.Slice lo hi none p2) pos) (tE G (fSl Fa Fl Fh)) :=
  PE_imp (pe_slice sl_all ha hl hh) fun σ H Q ⟨w, e, s, I, h⟩ => by
    refine ⟨w, e, s, I, holds_imp (holds_bind h) fun d s1 h1 w1 x H1 I1 x1 r1 => ?_⟩
    refine ⟨w1, e, s1, I1, holds_imp (holds_bind h1) fun l s2 h2 w2 H2 I2 x2 => ?_⟩
    refine ⟨w2, e, s2, I2, holds_imp (holds_bind h2) fun u s3 h3 w3 H3 I3 x3 => ?_⟩
    rw [hK]
    exact opSl I3 ((x2.trans x3).rp r1) (holds_imp h3 fun d s4 h4 => kE_ext (x1.trans (x2.trans x3)) h4)
@[simp] def fCall (g : List Dat → Sto → Res Dat) (Fs : FA) : FE := fun e s => (Fs e s).bind fun ds s1 => g ds s1
theorem de_callB {x : Str} {p pos : Pos} {a : Expr} {es : List Expr} {id : String} {r : List V → Hp → VK → Prop} {g : List Dat → Sto → Res Dat} {Fs : FA} (hc : CallR X (.builtin id) r) (hg : CallD G r g) (hm : X.mg x = none) (ha : PA X (a :: es) (tA G Fs)) (hgl : Gl X x := by rfl)
    (hv : bootBuiltins x = some (.builtin id) := by decide +kernel) (hn : x ≠ "__name__" := by decide) (hdb : (x == ("__debug__" : Str)) = false := by decide)
    (he : starEach (a :: es) X.env = (false, eval a X.env) :: starEach es X.env := by rfl) (hpl : (backTo pos (starEach es X.env)).any (·.1) = false := by rfl) : PE X (.Call (.Name x p) (a :: es) [] pos) (tE G (fCall g Fs)) :=
  PE_imp (pe_callB hc hgl hm hv ha hn hdb he hpl) fun σ H Q ⟨w, e, s, I, h⟩ => ⟨w, e, s, I, holds_imp (holds_bind h) fun ds s1 h1 w1 vs H1 I1 x1 r1 => hg w1 e s1 σ H1 vs ds Q I1 r1 (holds_imp h1 fun d s2 h2 => kE_ext x1 h2)⟩
theorem de_callTy {x : Str} {p pos : Pos} {a : Expr} {es : List Expr} {id : String} {r : List V → Hp → VK → Prop} {g : List Dat → Sto → Res Dat} {Fs : FA} (hc : CallR X (.type id) r) (hg : CallD G r g) (hm : X.mg x = none) (ha : PA X (a :: es) (tA G Fs)) (hgl : Gl X x := by rfl)
    (hv : bootBuiltins x = some (.type id) := by decide +kernel) (hn : x ≠ "__name__" := by decide) (hdb : (x == ("__debug__" : Str)) = false := by decide)
    (he : starEach (a :: es) X.env = (false, eval a X.env) :: starEach es X.env := by rfl) (hpl : (backTo pos (starEach es X.env)).any (·.1) = false := by rfl) : PE X (.Call (.Name x p) (a :: es) [] pos) (tE G (fCall g Fs)) :=
  PE_imp (pe_callTy hc hgl hm hv ha hn hdb he hpl) fun σ H Q ⟨w, e, s, I, h⟩ => ⟨w, e, s, I, holds_imp (holds_bind h) fun ds s1 h1 w1 vs H1 I1 x1 r1 => hg w1 e s1 σ H1 vs ds Q I1 r1 (holds_imp h1 fun d s2 h2 => kE_ext x1 h2)⟩
theorem rpl1 {K as F} {d : Dat} {vs : List V} (r : RpL K as F [d] vs) : ∃ v, vs = [v] ∧ Rp K as F d v := by
  cases vs with
  | nil => simp [RpL] at r
  | cons v t =>
    cases t with
    | nil => exact ⟨v, rfl, by simpa [RpL] using r⟩
    | cons _ _ => simp [RpL] at r
theorem rpl2 {K as F} {d d2 : Dat} {vs : List V} (r : RpL K as F [d, d2] vs) : ∃ v v2, vs = [v, v2] ∧ Rp K as F d v ∧ Rp K as F d2 v2 := by
  cases vs with
  | nil => simp [RpL] at r
  | cons v t =>
    simp only [RpL] at r
    obtain ⟨v2, rfl, r2⟩ := rpl1 r.2
    exact ⟨v, v2, rfl, r.1, r2⟩
@[simp] def gAbs : List Dat → Sto → Res Dat := fun ds s => match ds with
  | [.int i] => .ok (.int (if i < 0 then -i else i)) s
  | _ => .bad
theorem cdAbs : CallD G (fun xs H Q => ∃ i, xs = [.int i] ∧ Q (.int (if i < 0 then -i else i)) H) gAbs := by
  intro w e s σ H xs ds Q I r h
  unfold gAbs at h
  split at h
  · obtain ⟨v, rfl, r1⟩ := rpl1 r
    exact ⟨_, by rw [rp_int r1], flat_ok I h rp_i⟩
  · exact h.elim
theorem de_abs {p pos : Pos} {a : Expr} {es : List Expr} {Fs : FA} (hm : X.mg "abs" = none) (ha : PA X (a :: es) (tA G Fs)) (hgl : Gl X "abs" := by rfl) (he : starEach (a :: es) X.env = (false, eval a X.env) :: starEach es X.env := by rfl) (hpl : (backTo pos (starEach es X.env)).any (·.1) = false := by rfl) :
    PE X (.Call (.Name "abs" p) (a :: es) [] pos) (tE G (fCall gAbs Fs)) := de_callB call_abs cdAbs hm ha (hgl := hgl) (he := he) (hpl := hpl)
@[simp] def gInt : List Dat → Sto → Res Dat := fun ds s => match ds with
  | [.int i] => .ok (.int i) s
  | [.bool k] => .ok (.int (if k then 1 else 0)) s
  | _ => .bad
theorem cdInt : CallD G (fun xs H Q => (∃ i, xs = [V.int i] ∧ Q (.int i) H) ∨ ∃ k, xs = [V.bl k] ∧ Q (.int (if k then 1 else 0)) H) gInt := by
  intro w e s σ H xs ds Q I r h
  unfold gInt at h
  split at h
  · obtain ⟨v, rfl, r1⟩ := rpl1 r
    exact .inl ⟨_, by rw [rp_int r1], flat_ok I h rp_i⟩
  · obtain ⟨v, rfl, r1⟩ := rpl1 r
    exact .inr ⟨_, by rw [rp_bool r1], flat_ok I h rp_i⟩
  · exact h.elim
@[simp] def gLen : List Dat → Sto → Res Dat := fun ds s => match ds with
  | [.list xs] => .ok (.int xs.length) s
  | [.tuple xs] => .ok (.int xs.length) s
  | [.str z] => if z.length ≤ sizeLine then .ok (.int z.length) s else .bad
  | _ => .bad
theorem cdLen : CallD G (fun xs H Q => ∃ x n, xs = [x] ∧ LenV G.K x H n ∧ Q (.int n) H) gLen := by
  intro w e s σ H xs ds Q I r h
  unfold gLen at h
  split at h
  · obtain ⟨v, rfl, r1⟩ := rpl1 r
    obtain ⟨p, ys, rfl, hp, rx⟩ := rp_list r1
    refine ⟨.ref p, _, rfl, .inl ⟨ys, .inl (.inl (Fz_sub _ _ hp)), rfl⟩, ?_⟩
    rw [rx.length]
    exact flat_ok I h rp_i
  · obtain ⟨v, rfl, r1⟩ := rpl1 r
    obtain ⟨p, ys, rfl, hp, rx⟩ := rp_tuple r1
    refine ⟨.ref p, _, rfl, .inr ⟨ys, sqT_mono Fz_sub hp, rfl⟩, ?_⟩
    rw [rx.length]
    exact flat_ok I h rp_i
  · split at h
    · rename_i c
      obtain ⟨v, rfl, r1⟩ := rpl1 r
      rw [rp_str r1]
      exact ⟨_, _, rfl, ⟨c, rfl⟩, flat_ok I h rp_i⟩
    · exact h.elim
  · exact h.elim
@[simp] def gTupOf : List Dat → Sto → Res Dat := fun ds s => match ds with
  | [.list xs] => .ok (.tuple xs) s
  | [.tuple xs] => .ok (.tuple xs) s
  | _ => .bad
theorem cdTup : CallD G (fun xs H Q => ∃ p ys, xs = [V.ref p] ∧ ((SqL G.K H p ys ∧ ∀ l, H l = none → Q (.ref l) (upd H l (.tup ys))) ∨ (SqT G.K H p ys ∧ Q (.ref p) H))) gTupOf := by
  intro w e s σ H xs ds Q I r h
  unfold gTupOf at h
  split at h
  · obtain ⟨v, rfl, r1⟩ := rpl1 r
    obtain ⟨p, ys, rfl, hp, rx⟩ := rp_list r1
    exact ⟨p, ys, rfl, .inl ⟨.inl (.inl (Fz_sub _ _ hp)), fun l hl => new_tuple I rx h hl⟩⟩
  · obtain ⟨v, rfl, r1⟩ := rpl1 r
    obtain ⟨p, ys, rfl, hp, rx⟩ := rp_tuple r1
    exact ⟨p, ys, rfl, .inr ⟨sqT_mono Fz_sub hp, flat_ok I h r1⟩⟩
  · exact h.elim
@[simp] def gLstOf : List Dat → Sto → Res Dat := fun ds s => match ds with
  | [.list xs] => .ok (.list xs) s
  | [.tuple xs] => .ok (.list xs) s
  | _ => .bad
theorem cdLst : CallD G (fun xs H Q => ∃ p ys, xs = [V.ref p] ∧ (SqL G.K H p ys ∨ SqT G.K H p ys) ∧ ∀ l, H l = none → Q (.ref l) (upd H l (.lst ys))) gLstOf := by
  intro w e s σ H xs ds Q I r h
  unfold gLstOf at h
  split at h
  · obtain ⟨v, rfl, r1⟩ := rpl1 r
    obtain ⟨p, ys, rfl, hp, rx⟩ := rp_list r1
    exact ⟨p, ys, rfl, .inl (.inl (.inl (Fz_sub _ _ hp))), fun l hl => new_list I rx h hl⟩
  · obtain ⟨v, rfl, r1⟩ := rpl1 r
    obtain ⟨p, ys, rfl, hp, rx⟩ := rp_tuple r1
    exact ⟨p, ys, rfl, .inr (sqT_mono Fz_sub hp), fun l hl => new_list I rx h hl⟩
  · exact h.elim
@[simp] def ints? : List Dat → Option (List Int)
  | [] => some []
  | .int i :: r => (ints? r).map (i :: ·)
  | _ :: _ => none
@[simp] def bools? : List Dat → Option (List Bool)
  | [] => some []
  | .bool i :: r => (bools? r).map (i :: ·)
  | _ :: _ => none
theorem bools_vals {K as F} : ∀ {ds : List Dat} {ns : List Bool} {vs : List V}, bools? ds = some ns → RpL K as F ds vs → vs = ns.map V.bl
  | [], _, [], h, _ => by simp [bools?] at h; subst h; rfl
  | d :: ds, ns, v :: vs, h, r => by
    simp only [RpL] at r
    cases d with
    | bool i =>
      simp only [bools?, Option.map_eq_some_iff] at h
      obtain ⟨m, hm, rfl⟩ := h
      rw [rp_bool r.1, bools_vals hm r.2]; rfl
    | _ => simp [bools?] at h
  | [], _, _ :: _, _, h => by simp [RpL] at h
  | _ :: _, _, [], _, h => by simp [RpL] at h
def maxL : List Int → Int
  | [] => 0
  | [a] => a
  | a :: b :: r => if a < maxL (b :: r) then maxL (b :: r) else a
def minL : List Int → Int
  | [] => 0
  | [a] => a
  | a :: b :: r => if minL (b :: r) < a then minL (b :: r) else a
@[simp] def gMax : List Dat → Sto → Res Dat := fun ds s => match ds with
  | [.list xs] => match ints? xs with
    | some ns => if 0 < ns.length then .ok (.int (maxL ns)) s else .bad
    | none => .bad
  | _ => .bad
@[simp] def gMin : List Dat → Sto → Res Dat := fun ds s => match ds with
  | [.list xs] => match ints? xs with
    | some ns => if 0 < ns.length then .ok (.int (minL ns)) s else .bad
    | none => .bad
  | _ => .bad
@[simp] def gSum : List Dat → Sto → Res Dat := fun ds s => match ds with
  | [.list xs] => match ints? xs with
    | some ns => .ok (.int ns.sum) s
    | none => .bad
  | [.tuple xs] => match ints? xs with
    | some ns => .ok (.int ns.sum) s
    | none => .bad
  | _ => .bad
@[simp] def gAll : List Dat → Sto → Res Dat := fun ds s => match ds with
  | [.list xs] => match bools? xs with
    | some ns => .ok (.bool (ns.all id)) s
    | none => .bad
  | _ => .bad
@[simp] def gAny : List Dat → Sto → Res Dat := fun ds s => match ds with
  | [.list xs] => match bools? xs with
    | some ns => .ok (.bool (ns.any id)) s
    | none => .bad
  | _ => .bad
theorem cdAll : CallD G (rAll G.K) gAll := by
  intro w e s σ H xs ds Q I r h
  unfold gAll at h
  split at h
  · split at h
    · rename_i ns hns
      obtain ⟨v, rfl, r1⟩ := rpl1 r
      obtain ⟨p, ys, rfl, hp, rx⟩ := rp_list r1
      have e := bools_vals hns rx
      subst e
      exact ⟨p, ns, rfl, .inl (.inl (Fz_sub _ _ hp)), flat_ok I h rp_b⟩
    · exact h.elim
  · exact h.elim
theorem cdAny : CallD G (rAny G.K) gAny := by
  intro w e s σ H xs ds Q I r h
  unfold gAny at h
  split at h
  · split at h
    · rename_i ns hns
      obtain ⟨v, rfl, r1⟩ := rpl1 r
      obtain ⟨p, ys, rfl, hp, rx⟩ := rp_list r1
      have e := bools_vals hns rx
      subst e
      exact ⟨p, ns, rfl, .inl (.inl (Fz_sub _ _ hp)), flat_ok I h rp_b⟩
    · exact h.elim
  · exact h.elim
section
variable {p pos : Pos} {a : Expr} {es : List Expr} {Fs : FA}
theorem de_all (hc : X.calm = true) (hK : X.K = G.K) (hm : X.mg "all" = none) (ha : PA X (a :: es) (tA G Fs)) (hgl : Gl X "all" := by rfl) (he : starEach (a :: es) X.env = (false, eval a X.env) :: starEach es X.env := by rfl) (hpl : (backTo pos (starEach es X.env)).any (·.1) = false := by rfl) :
    PE X (.Call (.Name "all" p) (a :: es) [] pos) (tE G (fCall gAll Fs)) := de_callB (cr_all hc) (by rw [hK]; exact cdAll) hm ha (hgl := hgl) (he := he) (hpl := hpl)
theorem de_any (hc : X.calm = true) (hK : X.K = G.K) (hm : X.mg "any" = none) (ha : PA X (a :: es) (tA G Fs)) (hgl : Gl X "any" := by rfl) (he : starEach (a :: es) X.env = (false, eval a X.env) :: starEach es X.env := by rfl) (hpl : (backTo pos (starEach es X.env)).any (·.1) = false := by rfl) :
    PE X (.Call (.Name "any" p) (a :: es) [] pos) (tE G (fCall gAny Fs)) := de_callB (cr_any hc) (by rw [hK]; exact cdAny) hm ha (hgl := hgl) (he := he) (hpl := hpl)
end
end
end DL
namespace DL
open PySem PySem.Spec PyProof.Rows L2
section
variable {X : Cx} {G : Gx}
section
variable {w w' : Wd} {e e2 : Lcs} {s s' : Sto} {σ σ2 : L2.St} {H H' : Hp}
theorem IE.re (I : IE G w e s σ H) (x : EExt w H w' H') (J : IE G w' e2 s' σ2 H') : IE G w' e s' σ H' := by
  refine ⟨I.len, fun i d h => ?_, fun i ds h => ?_, I.inj, J.slen, J.cells, J.nd, J.dis, J.beg, J.o0, J.there, J.keep, J.cfresh⟩
  · obtain ⟨v, h1, h2⟩ := I.slot i d h
    exact ⟨v, h1, x.rp h2⟩
  · obtain ⟨p, vs, h1, h2, h3, h4, h5, h6⟩ := I.own i ds h
    exact ⟨p, vs, h1, by rw [x.ow]; exact h2, h3, h4, by rw [x.own p h2]; exact h5, CR.mono x.beg x.same h6⟩
theorem IE.fresh0 (I : IE G w e s σ H) {p : Addr} (hp : H p = none) : G.H0 p = none := by
  cases q : G.H0 p with
  | none => rfl
  | some o =>
    by_cases h : p ∈ G.as0
    · exact absurd hp (I.cellThere (I.beg.mem h))
    · have := I.keep p o q h
      rw [hp] at this; cases this
theorem IE.freshO (I : IE G w e s σ H) {p : Addr} (hp : H p = none) : ¬ w.ow p := fun h => I.there p h hp
theorem IE.freshO0 (I : IE G w e s σ H) {p : Addr} (hp : H p = none) : ¬ G.O0 p := fun h => I.freshO hp (I.o0 p h)
theorem IE.freshA (I : IE G w e s σ H) {p : Addr} (hp : H p = none) : p ∉ w.as := fun h => I.cellThere h hp
def Lone (e : Lcs) (σ : L2.St) (p : Addr) : Prop := ∀ (i : Nat) ds, e[i]? = some (.ow ds) → σ[i]? ≠ some (some (.ref p))
theorem IE.lone (I : IE G w e s σ H) {p : Addr} (hp : H p = none) : Lone e σ p := fun i ds h h2 => by
  obtain ⟨q, vs, h1, _, _, _, h5, _⟩ := I.own i ds h
  rw [h2] at h1; cases h1
  rw [hp] at h5; cases h5
def Wd.plus (w : Wd) (p : Addr) : Wd := ⟨w.as, fun a => w.ow a ∨ a = p⟩
theorem Fz_plus {p : Addr} {o : HO} (hp : H p = none) : Fz (w.plus p) (upd H p o) = Fz w H := by
  funext a
  unfold Fz
  by_cases ha : a = p
  · subst ha
    rw [if_pos (.inr (.inr rfl))]
    split
    · rfl
    · rw [hp]
  · by_cases h : a ∈ w.as ∨ w.ow a
    · rw [if_pos h, if_pos (h.elim .inl fun q => .inr (.inl q))]
    · rw [if_neg h, if_neg (by rintro (q | q | q); exact h (.inl q); exact h (.inr q); exact ha q), upd_ne ha]
theorem IE.plus (I : IE G w e s σ H) {p : Addr} {o : HO} (hp : H p = none) : IE G (w.plus p) e s σ (upd H p o) := by
  have ef : Fz (w.plus p) (upd H p o) = Fz w H := Fz_plus hp
  have hx : ∀ {a : Addr} {u : HO}, H a = some u → upd H p o a = some u := fun {a u} h => by rw [upd_ne (ne_of_none h hp)]; exact h
  refine ⟨I.len, fun i d h => ?_, fun i ds h => ?_, I.inj, I.slen, fun n ds h => ?_, I.nd, fun a ha => ?_, I.beg, fun a ha => .inl (I.o0 a ha), fun a h => ?_, fun a u h h' => hx (I.keep a u h h'), I.cfresh⟩
  · obtain ⟨v, h1, h2⟩ := I.slot i d h
    exact ⟨v, h1, by rw [ef]; exact h2⟩
  · obtain ⟨q, vs, h1, h2, h3, h4, h5, h6⟩ := I.own i ds h
    exact ⟨q, vs, h1, .inl h2, h3, h4, hx h5, by rw [ef]; exact h6⟩
  · obtain ⟨a, vs, h1, h2, h3⟩ := I.cells n ds h
    exact ⟨a, vs, h1, hx h2, by rw [ef]; exact h3⟩
  · rintro (q | q)
    · exact I.dis a ha q
    · subst q
      exact I.freshA hp ha
  · rcases h with h | h
    · cases z : H a with
      | none => exact absurd z (I.there a h)
      | some u => rw [hx z]; simp
    · subst h; rw [upd_same]; simp
theorem plus_f {p : Addr} {o : HO} (hp : H p = none) : FExt w H (w.plus p) (upd H p o) := ⟨.refl _, by rw [Fz_plus hp]; exact .refl _⟩
theorem Fz_own {p : Addr} {o : HO} (hp : w.ow p) : Fz w (upd H p o) = Fz w H := by
  funext a
  unfold Fz
  by_cases h : a ∈ w.as ∨ w.ow a
  · rw [if_pos h, if_pos h]
  · rw [if_neg h, if_neg h]
    exact upd_ne fun z => by subst z; exact h (.inr hp)
theorem IE.write (I : IE G w e s σ H) {p : Addr} {o : HO} (hp : w.ow p) (h0 : G.H0 p = none) (hl : Lone e σ p) : IE G w e s σ (upd H p o) := by
  have ef : Fz w (upd H p o) = Fz w H := Fz_own hp
  refine ⟨I.len, fun i d h => ?_, fun i ds h => ?_, I.inj, I.slen, fun n ds h => ?_, I.nd, I.dis, I.beg, I.o0, fun a h => ?_, fun a u h h' => ?_, I.cfresh⟩
  · obtain ⟨v, h1, h2⟩ := I.slot i d h
    exact ⟨v, h1, by rw [ef]; exact h2⟩
  · obtain ⟨q, vs, h1, h2, h3, h4, h5, h6⟩ := I.own i ds h
    have : q ≠ p := fun z => by subst z; exact hl i ds h h1
    exact ⟨q, vs, h1, h2, h3, h4, by rw [upd_ne this]; exact h5, by rw [ef]; exact h6⟩
  · obtain ⟨a, vs, h1, h2, h3⟩ := I.cells n ds h
    have : a ≠ p := fun z => by subst z; exact I.dis a (List.mem_of_getElem? h1) hp
    exact ⟨a, vs, h1, by rw [upd_ne this]; exact h2, by rw [ef]; exact h3⟩
  · by_cases z : a = p
    · subst z; rw [upd_same]; simp
    · rw [upd_ne z]; exact I.there a h
  · have : a ≠ p := fun z => by subst z; rw [h0] at h; cases h
    rw [upd_ne this]
    exact I.keep a u h h'
theorem write_f {p : Addr} {o : HO} (hp : w.ow p) : FExt w H w (upd H p o) := ⟨.refl _, by rw [Fz_own hp]; exact .refl _⟩
theorem IE.writeOwn (I : IE G w e s σ H) {p : Addr} {vs : HO} {i : Nat} {ds ds' : Cel} (he : e[i]? = some (.ow ds)) (hσ : σ[i]? = some (some (.ref p))) (r : CR G.xc G.K w.as (Fz w H) p ds' vs) : IE G w (e.set i (.ow ds')) s σ (upd H p vs) := by
  obtain ⟨q0, vs0, g1, g2, g3, g4, g5, g6⟩ := I.own i ds he
  rw [hσ] at g1; cases g1
  have hi : i < e.length := (List.getElem?_eq_some_iff.mp he).1
  have ef : Fz w (upd H p vs) = Fz w H := Fz_own g2
  have inj' : ∀ (j : Nat) es, e[j]? = some (.ow es) → σ[j]? = some (some (.ref p)) → j = i := fun j es h1 h2 => I.inj j i p es ds h1 he h2 hσ
  refine ⟨by rw [List.length_set]; exact I.len, fun j d h => ?_, fun j es h => ?_, fun a b q es fs h1 h2 h3 h4 => ?_, I.slen, fun n es h => ?_, I.nd, I.dis, I.beg, I.o0, fun a h => ?_, fun a u h h' => ?_, I.cfresh⟩
  · by_cases z : i = j
    · subst z; rw [List.getElem?_set_self hi] at h; cases h
    · rw [List.getElem?_set_ne z] at h
      obtain ⟨v, h1, h2⟩ := I.slot j d h
      exact ⟨v, h1, by rw [ef]; exact h2⟩
  · by_cases z : i = j
    · subst z
      rw [List.getElem?_set_self hi] at h; cases h
      exact ⟨p, vs, hσ, g2, g3, g4, upd_same, by rw [ef]; exact r⟩
    · rw [List.getElem?_set_ne z] at h
      obtain ⟨q, us, h1, h2, h3, h4, h5, h6⟩ := I.own j es h
      have : q ≠ p := fun y => by subst y; exact z (inj' j es h h1).symm
      exact ⟨q, us, h1, h2, h3, h4, by rw [upd_ne this]; exact h5, by rw [ef]; exact h6⟩
  · have k : ∀ (j : Nat) es, (e.set i (.ow ds'))[j]? = some (.ow es) → ∃ fs, e[j]? = some (.ow fs) := fun j es h => by
      by_cases z : i = j
      · subst z; exact ⟨ds, he⟩
      · rw [List.getElem?_set_ne z] at h; exact ⟨es, h⟩
    obtain ⟨es', k1⟩ := k a es h1
    obtain ⟨fs', k2⟩ := k b fs h2
    exact I.inj a b q es' fs' k1 k2 h3 h4
  · obtain ⟨a, us, h1, h2, h3⟩ := I.cells n es h
    have : a ≠ p := fun z => by subst z; exact I.dis a (List.mem_of_getElem? h1) g2
    exact ⟨a, us, h1, by rw [upd_ne this]; exact h2, by rw [ef]; exact h3⟩
  · by_cases z : a = p
    · subst z; rw [upd_same]; simp
    · rw [upd_ne z]; exact I.there a h
  · have : a ≠ p := fun z => by subst z; rw [g3] at h; cases h
    rw [upd_ne this]
    exact I.keep a u h h'
theorem IE.set (I : IE G w e s σ H) {i : Nat} {d : Dat} {v : V} (hi : i < e.length) (r : Rp G.K w.as (Fz w H) d v) : IE G w (e.set i (.fz d)) s (σ.set i (some v)) H := by
  have hσ : i < σ.length := by rw [← I.len]; exact hi
  have ne_of : ∀ {j : Nat} {es : Cel}, (e.set i (.fz d))[j]? = some (.ow es) → i ≠ j ∧ e[j]? = some (.ow es) := fun {j es} h => by
    by_cases z : i = j
    · subst z; rw [List.getElem?_set_self hi] at h; cases h
    · rw [List.getElem?_set_ne z] at h; exact ⟨z, h⟩
  refine ⟨by rw [List.length_set, List.length_set]; exact I.len, fun j d' h => ?_, fun j es h => ?_, fun a b q es fs h1 h2 h3 h4 => ?_, I.slen, I.cells, I.nd, I.dis, I.beg, I.o0, I.there, I.keep, I.cfresh⟩
  · by_cases z : i = j
    · subst z
      rw [List.getElem?_set_self hi] at h; cases h
      exact ⟨v, List.getElem?_set_self hσ, r⟩
    · rw [List.getElem?_set_ne z] at h ⊢
      exact I.slot j d' h
  · obtain ⟨z, h'⟩ := ne_of h
    rw [List.getElem?_set_ne z]
    exact I.own j es h'
  · obtain ⟨z1, k1⟩ := ne_of h1
    obtain ⟨z2, k2⟩ := ne_of h2
    rw [List.getElem?_set_ne z1] at h3
    rw [List.getElem?_set_ne z2] at h4
    exact I.inj a b q es fs k1 k2 h3 h4
theorem IE.setOwn (I : IE G w e s σ H) {i : Nat} {ds : Cel} {p : Addr} {vs : HO} (hi : i < e.length) (hp : w.ow p) (h0 : G.H0 p = none) (h1 : ¬ G.O0 p) (hl : Lone e σ p) (hH : H p = some vs) (r : CR G.xc G.K w.as (Fz w H) p ds vs) :
    IE G w (e.set i (.ow ds)) s (σ.set i (some (.ref p))) H := by
  have hσ : i < σ.length := by rw [← I.len]; exact hi
  refine ⟨by rw [List.length_set, List.length_set]; exact I.len, fun j d' h => ?_, fun j es h => ?_, fun a b q es fs k1 k2 k3 k4 => ?_, I.slen, I.cells, I.nd, I.dis, I.beg, I.o0, I.there, I.keep, I.cfresh⟩
  · by_cases z : i = j
    · subst z; rw [List.getElem?_set_self hi] at h; cases h
    · rw [List.getElem?_set_ne z] at h ⊢
      exact I.slot j d' h
  · by_cases z : i = j
    · subst z
      rw [List.getElem?_set_self hi] at h; cases h
      exact ⟨p, vs, List.getElem?_set_self hσ, hp, h0, h1, hH, r⟩
    · rw [List.getElem?_set_ne z] at h ⊢
      exact I.own j es h
  · by_cases za : i = a
    · subst za
      by_cases zb : i = b
      · exact zb
      · rw [List.getElem?_set_ne zb] at k2 k4
        rw [List.getElem?_set_self hσ] at k3
        cases k3
        exact absurd k4 (hl b fs k2)
    · by_cases zb : i = b
      · subst zb
        rw [List.getElem?_set_ne za] at k1 k3
        rw [List.getElem?_set_self hσ] at k4
        cases k4
        exact absurd k3 (hl a es k1)
      · rw [List.getElem?_set_ne za] at k1 k3
        rw [List.getElem?_set_ne zb] at k2 k4
        exact I.inj a b q es fs k1 k2 k3 k4
@[simp] def frz (i : Nat) (e : Lcs) : Lcs := match e[i]? with
  | some (.ow (.ls ds)) => e.set i (.fz (.list ds))
  | _ => e
open Classical in
theorem IE.freeze (I : IE G w e s σ H) (i : Nat) : ∃ w', IE G w' (frz i e) s σ H ∧ FExt w H w' H := by
  unfold frz
  split
  · rename_i ds he
    obtain ⟨p, vs, h1, h2, h3, h4, h5, h6⟩ := I.ownL he
    have hi : i < e.length := (List.getElem?_eq_some_iff.mp he).1
    have sm : Same (Fz w H) (Fz ⟨w.as, fun a => w.ow a ∧ a ≠ p⟩ H) := fun a o h => by
      obtain ⟨k1, k2, k3⟩ := Fz_get h
      exact Fz_of k1 k2 fun q => k3 q.1
    have pa : p ∉ w.as := fun h => I.dis p h h2
    refine ⟨⟨w.as, fun a => w.ow a ∧ a ≠ p⟩, ⟨by rw [List.length_set]; exact I.len, fun j d h => ?_, fun j es h => ?_, fun a b q es fs k1 k2 k3 k4 => ?_, I.slen, fun n es h => ?_, I.nd, fun a ha q => I.dis a ha q.1, I.beg, fun a ha => ⟨I.o0 a ha, fun z => by subst z; exact h4 ha⟩, fun a h => I.there a h.1, I.keep, I.cfresh⟩, ⟨.refl _, sm⟩⟩
    · by_cases z : i = j
      · subst z
        rw [List.getElem?_set_self hi] at h; cases h
        refine ⟨.ref p, h1, ?_⟩
        simp only [Rp]
        exact ⟨p, vs, rfl, Fz_of h5 pa fun q => q.2 rfl, RpL.mono (.refl _) sm _ _ h6⟩
      · rw [List.getElem?_set_ne z] at h
        obtain ⟨v, k1, k2⟩ := I.slot j d h
        exact ⟨v, k1, Rp.mono (.refl _) sm _ _ k2⟩
    · by_cases z : i = j
      · subst z; rw [List.getElem?_set_self hi] at h; cases h
      · rw [List.getElem?_set_ne z] at h
        obtain ⟨q, us, k1, k2, k3, k4, k5, k6⟩ := I.own j es h
        have : q ≠ p := fun y => by subst y; exact z (I.inj i j q _ es he h h1 k1)
        exact ⟨q, us, k1, ⟨k2, this⟩, k3, k4, k5, CR.mono (.refl _) sm k6⟩
    · have k : ∀ {j : Nat} {es}, (e.set i (.fz (.list ds)))[j]? = some (.ow es) → e[j]? = some (.ow es) := fun {j es} h => by
        by_cases z : i = j
        · subst z; rw [List.getElem?_set_self hi] at h; cases h
        · rw [List.getElem?_set_ne z] at h; exact h
      exact I.inj a b q es fs (k k1) (k k2) k3 k4
    · obtain ⟨a, us, k1, k2, k3⟩ := I.cells n es h
      exact ⟨a, us, k1, k2, CR.mono (.refl _) sm k3⟩
  · exact ⟨w, I, .refl⟩
end
def kS (G : Gx) (w : Wd) (H : Hp) (D : Ends) : Flo → Prop
  | .bad => False
  | .nx e' s' => ∀ w' σ' H', IE G w' e' s' σ' H' → FExt w H w' H' → D.nx σ' H'
  | .bk e' s' => ∀ w' σ' H', IE G w' e' s' σ' H' → FExt w H w' H' → D.bk σ' H'
  | .ct e' s' => ∀ w' σ' H', IE G w' e' s' σ' H' → FExt w H w' H' → D.ct σ' H'
  | .rt d s' => ∀ w' e' σ' v H', IE G w' e' s' σ' H' → FExt w H w' H' → Rp G.K w'.as (Fz w' H') d v → D.rt v H'
  | .ex x e' s' => ∀ w' σ' H' cls d, IE G w' e' s' σ' H' → FExt w H w' H' → ExR G.K G.xc w'.as (Fz w' H') x cls d → G.W cls d σ' H'
def tS (G : Gx) (F : FS) : TS := fun D σ H => ∃ w e s, IE G w e s σ H ∧ kS G w H D (F e s)
theorem kS_ext {w w1 : Wd} {H H1 : Hp} {D : Ends} {f : Flo} (x : FExt w H w1 H1) (h : kS G w H D f) : kS G w1 H1 D f := by
  cases f with
  | bad => exact h
  | nx e s => exact fun w' σ' H' I x' => h w' σ' H' I (x.trans x')
  | bk e s => exact fun w' σ' H' I x' => h w' σ' H' I (x.trans x')
  | ct e s => exact fun w' σ' H' I x' => h w' σ' H' I (x.trans x')
  | rt d s => exact fun w' e' σ' v H' I x' => h w' e' σ' v H' I (x.trans x')
  | ex z e s => exact fun w' σ' H' cls d I x' => h w' σ' H' cls d I (x.trans x')
def Res.flo {α : Type} (r : Res α) (e : Lcs) (f : α → Sto → Flo) : Flo := match r with
  | .bad => .bad
  | .ok a s => f a s
  | .ex x s => .ex x e s
@[simp] theorem flo_ex {α : Type} (x : Dat) (s : Sto) (e : Lcs) (f : α → Sto → Flo) : (Res.ex x s : Res α).flo e f = .ex x e s := rfl
@[simp] theorem flo_ok {α : Type} (a : α) (s : Sto) (e : Lcs) (f : α → Sto → Flo) : (Res.ok a s).flo e f = f a s := rfl
@[simp] theorem flo_bad {α : Type} (e : Lcs) (f : α → Sto → Flo) : (Res.bad : Res α).flo e f = .bad := rfl
theorem flo_holds {α : Type} {r : Res α} {f : α → Sto → Flo} {w : Wd} {e : Lcs} {σ : L2.St} {H : Hp} {D : Ends} (h : kS G w H D (r.flo e f)) : r.holds (fun a s => kS G w H D (f a s)) (kX G w e σ H) := by
  cases r with
  | bad => exact h
  | ok a s => exact h
  | ex x s => exact fun w' H' cls d I x' rr => h w' σ H' cls d I x'.f rr
theorem flo_holdsF {α : Type} {r : Res α} {f : α → Sto → Flo} {w : Wd} {e : Lcs} {H : Hp} {D : Ends} (h : kS G w H D (r.flo e f)) : r.holds (fun a s => kS G w H D (f a s)) fun x s => kS G w H D (.ex x e s) := by
  cases r with
  | bad => exact h
  | ok a s => exact h
  | ex x s => exact h
def Flo.seq (f : Flo) (k : Lcs → Sto → Flo) : Flo := match f with
  | .nx e s => k e s
  | f => f
@[simp] theorem seq_nx (e : Lcs) (s : Sto) (k : Lcs → Sto → Flo) : (Flo.nx e s).seq k = k e s := rfl
@[simp] theorem seq_rt (d : Dat) (s : Sto) (k : Lcs → Sto → Flo) : (Flo.rt d s).seq k = .rt d s := rfl
@[simp] theorem seq_bk (e : Lcs) (s : Sto) (k : Lcs → Sto → Flo) : (Flo.bk e s).seq k = .bk e s := rfl
@[simp] theorem seq_ct (e : Lcs) (s : Sto) (k : Lcs → Sto → Flo) : (Flo.ct e s).seq k = .ct e s := rfl
@[simp] theorem seq_ex (x : Dat) (e : Lcs) (s : Sto) (k : Lcs → Sto → Flo) : (Flo.ex x e s).seq k = .ex x e s := rfl
@[simp] theorem seq_bad (k : Lcs → Sto → Flo) : (Flo.bad).seq k = .bad := rfl
@[simp] def sNext : FS := fun e s => .nx e s
@[simp] def sSeq (F K : FS) : FS := fun e s => (F e s).seq K
@[simp] def sBreak : FS := fun e s => .bk e s
@[simp] def sCont : FS := fun e s => .ct e s
@[simp] def sDrop (Fa : FE) : FS := fun e s => (Fa e s).flo e fun _ s' => .nx e s'
@[simp] def sRet (Fa : FE) : FS := fun e s => (Fa e s).flo e fun d s' => .rt d s'
@[simp] def sRetN : FS := fun _ s => .rt .none s
@[simp] def sIf (Fc : FT) (F K : FS) : FS := fun e s => (Fc e s).flo e fun c s' => if c then F e s' else K e s'
section
variable {st : Stmt} {rest : List Stmt} {a b : List Stmt} {F K : FS} {x : Expr} {Fa : FE} {Fc : FT} {pos : Pos}
theorem ds_nil : PSs X [] (tS G sNext) := PSs_imp pss_nil fun D σ H ⟨w, e, s, I, h⟩ => h w σ H I .refl
theorem ds_cons (h1 : PS X st (tS G F)) (h2 : PSs X rest (tS G K)) : PSs X (st :: rest) (tS G (sSeq F K)) := PSs_imp (pss_cons h1 h2) fun D σ H ⟨w, e, s, I, h⟩ => by
  refine ⟨w, e, s, I, ?_⟩
  unfold sSeq at h
  cases q : F e s with
  | bad => rw [q] at h; exact h
  | nx e1 s1 =>
    rw [q] at h
    exact fun w1 σ1 H1 I1 x1 => ⟨w1, e1, s1, I1, kS_ext x1 h⟩
  | bk e1 s1 => rw [q] at h; exact h
  | ct e1 s1 => rw [q] at h; exact h
  | rt d s1 => rw [q] at h; exact h
  | ex x e1 s1 => rw [q] at h; exact h
theorem ds_one (h1 : PS X st (tS G F)) : PSs X [st] (tS G F) := pss_one h1
theorem ds_expr (ha : PE X x (tE G Fa)) (hs : swapsWith x none pos.line X.env = pure false := by rfl) : PS X (.Expr x pos) (tS G (sDrop Fa)) := PS_imp (ps_expr ha hs) fun D σ H ⟨w, e, s, I, h⟩ =>
  ⟨w, e, s, I, holds_imp (flo_holds h) fun d s1 h1 w1 v H1 I1 x1 r1 => h1 w1 σ H1 I1 x1.f⟩
theorem ds_ret (ha : PE X x (tE G Fa)) : PS X (.Return (some x) pos) (tS G (sRet Fa)) := PS_imp (ps_ret ha) fun D σ H ⟨w, e, s, I, h⟩ =>
  ⟨w, e, s, I, holds_imp (flo_holds h) fun d s1 h1 w1 v H1 I1 x1 r1 => h1 w1 e σ v H1 I1 x1.f r1⟩
theorem ds_if {c : Expr} (hc : PT X c (tT G Fc)) (ha : PSs X a (tS G F)) (hb : PSs X b (tS G K)) : PS X (.If c a b pos) (tS G (sIf Fc F K)) := PS_imp (ps_if hc ha hb) fun D σ H ⟨w, e, s, I, h⟩ => by
  refine ⟨w, e, s, I, holds_imp (flo_holds h) fun d s1 h1 w1 H1 I1 x1 => ?_⟩
  cases d with
  | true => exact iteT ⟨w1, e, s1, I1, kS_ext x1.f h1⟩
  | false => exact iteF ⟨w1, e, s1, I1, kS_ext x1.f h1⟩
@[simp] def sFreeze (i : Nat) (F : FS) : FS := fun e s => F (frz i e) s
theorem ds_freeze (i : Nat) (h : PS X st (tS G F)) : PS X st (tS G (sFreeze i F)) := PS_imp h fun D σ H ⟨w, e, s, I, q⟩ => by
  obtain ⟨w', J, x⟩ := I.freeze i
  exact ⟨w', frz i e, s, J, kS_ext x q⟩
end
def kG (G : Gx) (is : List Nat) (w : Wd) (σ : L2.St) (H : Hp) (Q : L2.St → Hp → Prop) : Lcs → Sto → Prop := fun e' s' => ∀ w' σ' H', IE G w' e' s' σ' H' → EExt w H w' H' → (∀ i, i ∉ is → σ'[i]? = σ[i]?) → σ'.length = σ.length → Q σ' H'
def tG (G : Gx) (is : List Nat) (F : FG) : TG := fun v σ H Q => ∃ w e s d, IE G w e s σ H ∧ Rp G.K w.as (Fz w H) d v ∧ (F d e s).holds (kG G is w σ H Q) fun _ _ => False
abbrev FGs := List Dat → Lcs → Sto → Res Lcs
def tGs (G : Gx) (is : List Nat) (F : FGs) : TGs := fun vs σ H Q => ∃ w e s ds, IE G w e s σ H ∧ RpL G.K w.as (Fz w H) ds vs ∧ (F ds e s).holds (kG G is w σ H Q) fun _ _ => False
theorem PG_imp {a : Expr} {t t' : TG} (h : PG X a t) (k : ∀ v σ H Q, t' v σ H Q → t v σ H Q) : PG X a t' := ⟨fun pins s σ H v u Q I r q => h.run pins s σ H v u Q I r (k _ _ _ _ q)⟩
theorem PGs_imp {a : List Expr} {t t' : TGs} (h : PGs X a t) (k : ∀ v σ H Q, t' v σ H Q → t v σ H Q) : PGs X a t' := ⟨fun pins s σ H v u Q I r q => h.run pins s σ H v u Q I r (k _ _ _ _ q)⟩
@[simp] def gSet (i : Nat) : FG := fun d e s => if i < e.length then .ok (e.set i (.fz d)) s else .bad
@[simp] def gsNil : FGs := fun ds e s => match ds with
  | [] => .ok e s
  | _ => .bad
@[simp] def gsCons (F : FG) (Fr : FGs) : FGs := fun ds e s => match ds with
  | d :: r => (F d e s).bind fun e1 s1 => Fr r e1 s1
  | [] => .bad
@[simp] def gTupT (n : Nat) (F : FGs) : FG := fun d e s => match d with
  | .tuple ds => if ds.length = n then F ds e s else .bad
  | _ => .bad
theorem dg_name (i : Nat) {x : Str} {pos : Pos} (hN : X.N.Nodup) (hi : X.N[i]? = some x := by rfl) (hx : Loc X.env.scope x := by first | exact Or.inl rfl | exact Or.inr rfl) (hf : X.fn x = true ∨ X.env.scope.names.lookup x = some .local := by first | exact .inl rfl | exact .inr rfl) : PG X (.Name x pos) (tG G [i] (gSet i)) :=
  PG_imp (pg_name hN hi hx hf) fun v σ H Q ⟨w, e, s, d, I, r, h⟩ => by
    unfold gSet at h
    split at h
    · rename_i c
      exact h w _ H (I.set c r) .refl (fun j hj => by
        have hj' : j ≠ i := by simpa using hj
        exact List.getElem?_set_ne (Ne.symm hj')) (by rw [List.length_set])
    · exact h.elim
theorem dgs_nil : PGs X [] (tGs G [] gsNil) := PGs_imp pgs_nil fun vs σ H Q ⟨w, e, s, ds, I, r, h⟩ => by
  unfold gsNil at h
  split at h
  · cases vs with
    | nil => exact ⟨rfl, h w σ H I .refl (fun _ _ => rfl) rfl⟩
    | cons _ _ => simp [RpL] at r
  · exact h.elim
theorem dgs_cons {a : Expr} {r : List Expr} {F : FG} {Fr : FGs} {is js : List Nat} (h1 : PG X a (tG G is F)) (h2 : PGs X r (tGs G js Fr)) (hs : (assignEach (a :: r) X.env).map (·.2) = assign a X.env :: (assignEach r X.env).map (·.2) := by rfl) : PGs X (a :: r) (tGs G (is ++ js) (gsCons F Fr)) :=
  PGs_imp (pgs_cons h1 h2 hs) fun vs σ H Q ⟨w, e, s, ds, I, r, h⟩ => by
    unfold gsCons at h
    split at h
    · rename_i d dr
      cases vs with
      | nil => simp [RpL] at r
      | cons v vr =>
        simp only [RpL] at r
        refine ⟨v, vr, rfl, w, e, s, d, I, r.1, holds_imp (holds_bind h) fun e1 s1 k w1 σ1 H1 I1 x1 a1 l1 => ?_⟩
        refine ⟨w1, e1, s1, dr, I1, x1.rpl r.2, holds_imp k fun e2 s2 k2 w2 σ2 H2 I2 x2 a2 l2 => ?_⟩
        exact k2 w2 σ2 H2 I2 (x1.trans x2) (fun i hi => (a2 i fun z => hi (List.mem_append_right _ z)).trans (a1 i fun z => hi (List.mem_append_left _ z))) (l2.trans l1)
    · exact h.elim
theorem dg_tup {es : List Expr} {k : Nat} {pos : Pos} {F : FGs} {is : List Nat} {n : Nat} (hc : X.calm = true) (hK : X.K = G.K) (h : PGs X es (tGs G is F)) (hn : (assignEach es X.env).length = n := by rfl) (hst : (assignEach es X.env).findIdx? (·.1) = none := by rfl) : PG X (.Tuple es k pos) (tG G is (gTupT n F)) :=
  PG_imp (pg_tup hc h hn hst) fun v σ H Q ⟨w, e, s, d, I, r, q⟩ => by
    unfold gTupT at q
    split at q
    · rename_i ds
      split at q
      · rename_i c
        obtain ⟨a, xs, rfl, hq, rx⟩ := rp_tuple r
        exact ⟨a, xs, rfl, by rw [hK]; exact sqT_mono Fz_sub hq, by rw [rx.length]; exact c, w, e, s, ds, I, rx, q⟩
      · exact q.elim
    · exact q.elim
@[simp] def sAsg (Fa : FE) (F : FG) : FS := fun e s => (Fa e s).flo e fun d s1 => (F d e s1).noex.flo e fun e2 s2 => .nx e2 s2
@[simp] def sSet (i : Nat) (Fa : FE) : FS := fun e s => sAsg Fa (gSet i) e s
theorem tAsg_of {Fa : FE} {F : FG} {is : List Nat} {D : Ends} {σ : L2.St} {H : Hp} (h : tS G (sAsg Fa F) D σ H) : tAsg (tE G Fa) (tG G is F) D σ H := by
  obtain ⟨w, e, s, I, h⟩ := h
  refine ⟨w, e, s, I, holds_imp (flo_holds h) fun d s1 h1 w1 v H1 I1 x1 r1 => ?_⟩
  exact ⟨w1, e, s1, d, I1, r1, holds_imp (holds_noex (flo_holds (e := e) (σ := σ) h1) _) fun e2 s2 h2 w2 σ2 H2 I2 x2 _ _ => h2 w2 σ2 H2 I2 (x1.f.trans x2.f)⟩
theorem ds_asg {tg x : Expr} {pos : Pos} {Fa : FE} {F : FG} {is : List Nat} (ha : PE X x (tE G Fa)) (hg : PG X tg (tG G is F)) (hs : swapsWithSole [tg] x pos.line X.env = pure false := by rfl) (hw : swappedStores [tg] x X.env = pure none := by rfl)
    (h1 : (assignEach [tg] X.env).map (·.2) = [assign tg X.env] := by rfl) : PS X (.Assign [tg] x pos) (tS G (sAsg Fa F)) := PS_imp (ps_asg ha hg hs hw h1) fun _ _ _ h => tAsg_of h
theorem gName_of {i : Nat} {v : V} {σ : L2.St} {H : Hp} {Q : L2.St → Hp → Prop} {is : List Nat} (h : tG G is (gSet i) v σ H Q) (hi : i ∈ is) : gName i v σ H Q := by
  obtain ⟨w, e, s, d, I, r, h⟩ := h
  unfold gSet at h
  split at h
  · rename_i c
    exact h w _ H (I.set c r) .refl (fun j hj => List.getElem?_set_ne fun (z : i = j) => hj (by rw [← z]; exact hi)) (by rw [List.length_set])
  · exact h.elim
theorem ds_set (i : Nat) {y : Str} {x : Expr} {pos pos' : Pos} {Fa : FE} (hN : X.N.Nodup) (ha : PE X x (tE G Fa)) (hi : X.N[i]? = some y := by rfl) (hx : Loc X.env.scope y := by first | exact Or.inl rfl | exact Or.inr rfl) (hs : swapsWith x (some (.Name y pos')) pos.line X.env = pure false := by rfl)
    (hf : X.fn y = true ∨ X.env.scope.names.lookup y = some .local := by first | exact .inl rfl | exact .inr rfl) : PS X (.Assign [.Name y pos'] x pos) (tS G (sSet i Fa)) :=
  PS_imp (ps_set hN hi hx ha hs hf) fun D σ H h => by
    have h' := tAsg_of (is := [i]) h
    obtain ⟨w, e, s, I, h'⟩ := h'
    exact ⟨w, e, s, I, holds_imp h' fun d s1 k w1 v H1 I1 x1 r1 => gName_of (k w1 v H1 I1 x1 r1) (by simp)⟩
@[simp] def sPar (i j : Nat) (Fs : FA) : FS := fun e s => (Fs e s).flo e fun ds s1 => match ds with
  | [d1, d2] => if i < e.length ∧ j < e.length then .nx ((e.set i (.fz d1)).set j (.fz d2)) s1 else .bad
  | _ => .bad
theorem ds_par (i j : Nat) {x y : Str} {a b : Expr} {Fs : FA} {px py pt pos : Pos} {kt k2 pt2} (hc : X.calm = true) (hN : X.N.Nodup) (ha : PA X [a, b] (tA G Fs)) (hi : X.N[i]? = some x := by rfl) (hj : X.N[j]? = some y := by rfl) (hij : i ≠ j := by decide)
    (hx : X.env.scope.names.lookup x = some .local := by rfl) (hy : X.env.scope.names.lookup y = some .local := by rfl)
    (hw : swappedStores [.Tuple [.Name x px, .Name y py] kt pt] (.Tuple [a, b] k2 pt2) X.env = pure (some [x, y]) := by rfl)
    (hs : swapsWithSole [.Tuple [.Name x px, .Name y py] kt pt] (.Tuple [a, b] k2 pt2) pos.line X.env = pure false := by rfl) :
    PS X (.Assign [.Tuple [.Name x px, .Name y py] kt pt] (.Tuple [a, b] k2 pt2) pos) (tS G (sPar i j Fs)) := PS_imp (ps_par hc hN hi hj hij hx hy ha hw hs) fun D σ H ⟨w, e, s, I, h⟩ => by
  refine ⟨w, e, s, I, holds_imp (flo_holds h) fun ds s1 h1 w1 vs H1 I1 x1 r1 => ?_⟩
  split at h1
  · rename_i d1 d2
    split at h1
    · rename_i c
      obtain ⟨v1, v2, rfl, k1, k2⟩ := rpl2 r1
      exact ⟨v1, v2, rfl, h1 w1 _ H1 ((I1.set c.1 k1).set (by rw [List.length_set]; exact c.2) k2) x1.f⟩
    · exact h1.elim
  · exact h1.elim
@[simp] def sAug (i : Nat) (f : Int → Int → Int) (Fa : FE) : FS := fun e s => match e[i]? with
  | some (.fz (.int a)) => (Fa e s).flo e fun d s1 => match d with
    | .int b => .nx (e.set i (.fz (.int (f a b)))) s1
    | _ => .bad
  | _ => .bad
end
end DL
namespace DL
open PySem PySem.Spec PyProof.Rows L2
section
variable {X : Cx} {G : Gx}
structure Wk (G : Gx) (w : Wd) (H : Hp) (J : It) (ds : List Dat) : Prop where
  go : ∀ w' H', FExt w H w' H' → ∀ i, i < ds.length → J.go i H'
  stop : ∀ w' H', FExt w H w' H' → ∀ i, i = ds.length → J.stop i H'
  yld : ∀ w' e s σ H' H'' i x, IE G w' e s σ H' → FExt w H w' H' → i < ds.length → J.yld i H' x H'' → IE G w' e s σ H'' ∧ EExt w' H' w' H'' ∧ ∃ d, ds[i]? = some d ∧ Rp G.K w'.as (Fz w' H'') d x
def kI (G : Gx) (w : Wd) (e : Lcs) (σ : L2.St) (H : Hp) (R : It → Hp → Prop) : List Dat → Sto → Prop := fun ds s' => ∀ w' H' J, IE G w' e s' σ H' → EExt w H w' H' → Wk G w' H' J ds → R J H'
def tI (G : Gx) (F : FA) : TI := fun σ H R => ∃ w e s, IE G w e s σ H ∧ (F e s).holds (kI G w e σ H R) (kX G w e σ H)
theorem PI_imp {tg a : Expr} {t t' : TI} (h : PI X tg a t) (k : ∀ σ H R, t' σ H R → t σ H R) : PI X tg a t' := ⟨fun pins s σ H R I q => h.run pins s σ H R I (k _ _ _ q)⟩
theorem PI_or {tg a : Expr} {t t' : TI} (h : PI X tg a t) (h' : PI X tg a t') : PI X tg a (fun σ H R => t σ H R ∨ t' σ H R) := ⟨fun pins s σ H R I q => by
  rcases q with q | q
  · exact h.run pins s σ H R I q
  · exact h'.run pins s σ H R I q⟩
theorem wk_list {w : Wd} {H : Hp} {a : Addr} {xs : List V} {ds : List Dat} (ha : Fz w H a = some (.lst xs)) (r : RpL G.K w.as (Fz w H) ds xs) : Wk G w H (Itl G.K a) ds := by
  have at_ : ∀ {w' H'}, FExt w H w' H' → SqL G.K H' a xs := fun {w' H'} x => .inl (.inl (Fz_sub _ _ (x.same _ _ ha)))
  refine ⟨fun w' H' x i hi => ?_, fun w' H' x i hi => ⟨xs, at_ x, by rw [r.length]; omega⟩, fun w' e s σ H' H'' i v I x hi y => ?_⟩
  · have hi' : i < xs.length := by rw [r.length]; exact hi
    exact ⟨xs, xs[i], at_ x, List.getElem?_eq_getElem hi'⟩
  · obtain ⟨rfl, y⟩ := y
    obtain ⟨d, h1, h2⟩ := r.get (y xs (at_ x))
    exact ⟨I, .refl, d, h1, x.rp h2⟩
theorem wk_tuple {w : Wd} {H : Hp} {a : Addr} {xs : List V} {ds : List Dat} (ha : SqT G.K (Fz w H) a xs) (r : RpL G.K w.as (Fz w H) ds xs) : Wk G w H (Itt G.K a) ds := by
  have at_ : ∀ {w' H'}, FExt w H w' H' → SqT G.K H' a xs := fun {w' H'} x => sqT_mono (x.same.trans Fz_sub) ha
  refine ⟨fun w' H' x i hi => ?_, fun w' H' x i hi => ⟨xs, at_ x, by rw [r.length]; omega⟩, fun w' e s σ H' H'' i v I x hi y => ?_⟩
  · have hi' : i < xs.length := by rw [r.length]; exact hi
    exact ⟨xs, xs[i], at_ x, List.getElem?_eq_getElem hi'⟩
  · obtain ⟨rfl, y⟩ := y
    obtain ⟨d, h1, h2⟩ := r.get (y xs (at_ x))
    exact ⟨I, .refl, d, h1, x.rp h2⟩
def chars (z : Str) : List Dat := z.cps.toList.map fun c => .str ⟨#[c]⟩
theorem wk_str {w : Wd} {H : Hp} {z : Str} : Wk G w H (Its z) (chars z) := by
  have hl : (chars z).length = z.cps.size := by unfold chars; rw [List.length_map, Array.length_toList]
  refine ⟨fun w' H' x i hi => by rw [hl] at hi; exact hi, fun w' H' x i hi => by rw [hl] at hi; exact Nat.le_of_eq hi.symm, fun w' e s σ H' H'' i v I x hi y => ?_⟩
  obtain ⟨rfl, c, hc, rfl⟩ := y
  refine ⟨I, .refl, .str ⟨#[c]⟩, ?_, rp_s⟩
  unfold chars
  rw [List.getElem?_map, Array.getElem?_toList, hc]
  rfl
@[simp] def fIter (Fa : FE) : FA := fun e s => (Fa e s).bind fun d s1 => match d with
  | .list ds => .ok ds s1
  | .tuple ds => .ok ds s1
  | .str z => .ok (chars z) s1
  | _ => .bad
theorem di_seq {tg a : Expr} {Fa : FE} (hK : X.K = G.K) (ha : PE X a (tE G Fa)) : PI X tg a (tI G (fIter Fa)) := PI_imp (PI_or (pi_list ha) (PI_or (pi_tup ha) (pi_str ha))) fun σ H R ⟨w, e, s, I, h⟩ => by
  unfold fIter at h
  rw [hK]
  cases q : Fa e s with
  | bad => rw [q] at h; exact h.elim
  | ex x0 s0 => exact .inl ⟨w, e, s, I, by rw [q] at h ⊢; exact h⟩
  | ok d s1 =>
    rw [q] at h
    cases d with
    | list ds =>
      refine .inl ⟨w, e, s, I, ?_⟩
      rw [q]
      intro w1 x H1 I1 x1 r1
      obtain ⟨p, xs, rfl, hp, rx⟩ := rp_list r1
      exact ⟨p, rfl, ⟨xs, .inl (.inl (Fz_sub _ _ hp))⟩, h w1 H1 _ I1 x1 (wk_list hp rx)⟩
    | tuple ds =>
      refine .inr (.inl ⟨w, e, s, I, ?_⟩)
      rw [q]
      intro w1 x H1 I1 x1 r1
      obtain ⟨p, xs, rfl, hp, rx⟩ := rp_tuple r1
      exact ⟨p, rfl, ⟨xs, sqT_mono Fz_sub hp⟩, h w1 H1 _ I1 x1 (wk_tuple hp rx)⟩
    | str z =>
      refine .inr (.inr ⟨w, e, s, I, ?_⟩)
      rw [q]
      intro w1 x H1 I1 x1 r1
      exact ⟨z, rp_str r1, h w1 H1 _ I1 x1 wk_str⟩
    | _ => exact h.elim
def ups (lo : Int) (n : Nat) : List Dat := (List.range n).map fun (i : Nat) => PyData.int (lo + i)
theorem ups_len (lo : Int) (n : Nat) : (ups lo n).length = n := by unfold ups; rw [List.length_map, List.length_range]
theorem wk_range {w : Wd} {H : Hp} {lo : Int} {n : Nat} : Wk G w H (Itr lo n) (ups lo n) := by
  refine ⟨fun w' H' x i hi => by rw [ups_len] at hi; exact hi, fun w' H' x i hi => by rw [ups_len] at hi; exact Nat.le_of_eq hi.symm, fun w' e s σ H' H'' i v I x hi y => ?_⟩
  obtain ⟨rfl, rfl⟩ := y
  rw [ups_len] at hi
  refine ⟨I, .refl, .int (lo + i), ?_, rp_i⟩
  unfold ups
  rw [List.getElem?_map, List.getElem?_range hi]; rfl
def cRng (i : Int) : Bool := decide (-(2 ^ 62) ≤ i) && decide (i < 2 ^ 62)
theorem cRng_is {i : Int} (h : cRng i = true) : -(2 ^ 62) ≤ i ∧ i < 2 ^ 62 := by
  unfold cRng at h
  rw [Bool.and_eq_true] at h
  exact ⟨of_decide_eq_true h.1, of_decide_eq_true h.2⟩
@[simp] def gRng1 : List Dat → Sto → Res (List Dat) := fun ds s => match ds with
  | [.int j] => if cRng j then .ok (ups 0 j.toNat) s else .bad
  | _ => .bad
@[simp] def gRng2 : List Dat → Sto → Res (List Dat) := fun ds s => match ds with
  | [.int i, .int j] => if cRng i && cRng j then .ok (ups i (j - i).toNat) s else .bad
  | _ => .bad
@[simp] def fItA (g : List Dat → Sto → Res (List Dat)) (Fs : FA) : FA := fun e s => (Fs e s).bind fun ds s1 => g ds s1
theorem di_range1 {tg a : Expr} {p pos : Pos} {Fs : FA} (hm : X.mg "range" = none) (ha : PA X [a] (tA G Fs)) (hg : Gl X "range" := by rfl) (hs : starEach [a] X.env = [(false, eval a X.env)] := by rfl) : PI X tg (.Call (.Name "range" p) [a] [] pos) (tI G (fItA gRng1 Fs)) :=
  PI_imp (pi_range1 hg hm ha hs) fun σ H R ⟨w, e, s, I, h⟩ => by
    refine ⟨w, e, s, I, holds_imp (holds_bind h) fun ds s1 h1 w1 vs H1 I1 x1 r1 => ?_⟩
    unfold gRng1 at h1
    split at h1
    · split at h1
      · rename_i c
        obtain ⟨v, rfl, k⟩ := rpl1 r1
        rw [rp_int k]
        exact ⟨_, rfl, (cRng_is c).1, (cRng_is c).2, h1 w1 H1 _ I1 x1 wk_range⟩
      · exact h1.elim
    · exact h1.elim
def pairs (xs ys : List Dat) : List Dat := (xs.zip ys).map fun p => .tuple [p.1, p.2]
theorem pair_new {w : Wd} {e : Lcs} {s : Sto} {σ : L2.St} {H : Hp} {T : Addr} {x y : V} {a b : Dat} (I : IE G w e s σ H) (hT : H T = none) (ra : Rp G.K w.as (Fz w H) a x) (rb : Rp G.K w.as (Fz w H) b y) :
    IE G w e s σ (upd H T (.tup [x, y])) ∧ EExt w H w (upd H T (.tup [x, y])) ∧ Rp G.K w.as (Fz w (upd H T (.tup [x, y]))) (.tuple [a, b]) (.ref T) := by
  refine ⟨I.new hT, I.newE hT, ?_⟩
  simp only [Rp]
  exact ⟨T, [x, y], rfl, .inl (.inl (I.newF hT)), RpL.cons ((I.newE hT).rp ra) (RpL.one ((I.newE hT).rp rb))⟩
theorem pairs_len (xs ys : List Dat) : (pairs xs ys).length = min xs.length ys.length := by unfold pairs; rw [List.length_map, List.length_zip]
theorem pairs_get {xs ys : List Dat} {i : Nat} {a b : Dat} (h1 : xs[i]? = some a) (h2 : ys[i]? = some b) : (pairs xs ys)[i]? = some (.tuple [a, b]) := by
  unfold pairs
  rw [List.getElem?_map, (List.getElem?_zip_eq_some (z := (a, b))).mpr ⟨h1, h2⟩]; rfl
theorem wk_zip {w : Wd} {H : Hp} {a b : Addr} {xs ys : List V} {ds es : List Dat} (ha : Fz w H a = some (.lst xs)) (r : RpL G.K w.as (Fz w H) ds xs) (hb : Fz w H b = some (.lst ys)) (r2 : RpL G.K w.as (Fz w H) es ys) : Wk G w H (Itz G.K a b) (pairs ds es) := by
  have at_ : ∀ {w' H'}, FExt w H w' H' → SqL G.K H' a xs := fun {w' H'} x => .inl (.inl (Fz_sub _ _ (x.same _ _ ha)))
  have at2 : ∀ {w' H'}, FExt w H w' H' → SqL G.K H' b ys := fun {w' H'} x => .inl (.inl (Fz_sub _ _ (x.same _ _ hb)))
  have l1 := r.length
  have l2 := r2.length
  refine ⟨fun w' H' x i hi => ?_, fun w' H' x i hi => ⟨xs, ys, at_ x, at2 x, ?_⟩, fun w' e s σ H' H'' i v I x hi y => ?_⟩
  · rw [pairs_len] at hi
    have h1 : i < xs.length := by omega
    have h2 : i < ys.length := by omega
    exact ⟨xs, ys, xs[i], ys[i], at_ x, at2 x, List.getElem?_eq_getElem h1, List.getElem?_eq_getElem h2⟩
  · rw [pairs_len] at hi
    omega
  · obtain ⟨T, x1, y1, rfl, hT, rfl, f1, f2⟩ := y
    obtain ⟨d1, g1, k1⟩ := r.get (f1 xs (at_ x))
    obtain ⟨d2, g2, k2⟩ := r2.get (f2 ys (at2 x))
    obtain ⟨J, E, R⟩ := pair_new I hT (x.rp k1) (x.rp k2)
    exact ⟨J, E, _, pairs_get g1 g2, R⟩
theorem wk_zipT {w : Wd} {H : Hp} {a b : Addr} {xs ys : List V} {ds es : List Dat} (ha : SqT G.K (Fz w H) a xs) (r : RpL G.K w.as (Fz w H) ds xs) (hb : SqT G.K (Fz w H) b ys) (r2 : RpL G.K w.as (Fz w H) es ys) : Wk G w H (RZ.ItzT G.K a b) (pairs ds es) := by
  have at_ : ∀ {w' H'}, FExt w H w' H' → SqT G.K H' a xs := fun {w' H'} x => sqT_mono (x.same.trans Fz_sub) ha
  have at2 : ∀ {w' H'}, FExt w H w' H' → SqT G.K H' b ys := fun {w' H'} x => sqT_mono (x.same.trans Fz_sub) hb
  have l1 := r.length
  have l2 := r2.length
  refine ⟨fun w' H' x i hi => ?_, fun w' H' x i hi => ⟨xs, ys, at_ x, at2 x, ?_⟩, fun w' e s σ H' H'' i v I x hi y => ?_⟩
  · rw [pairs_len] at hi
    have h1 : i < xs.length := by omega
    have h2 : i < ys.length := by omega
    exact ⟨xs, ys, xs[i], ys[i], at_ x, at2 x, List.getElem?_eq_getElem h1, List.getElem?_eq_getElem h2⟩
  · rw [pairs_len] at hi
    omega
  · obtain ⟨T, x1, y1, rfl, hT, rfl, f1, f2⟩ := y
    obtain ⟨d1, g1, k1⟩ := r.get (f1 xs (at_ x))
    obtain ⟨d2, g2, k2⟩ := r2.get (f2 ys (at2 x))
    obtain ⟨J, E, R⟩ := pair_new I hT (x.rp k1) (x.rp k2)
    exact ⟨J, E, _, pairs_get g1 g2, R⟩
theorem wk_enum {w : Wd} {H : Hp} {a : Addr} {xs : List V} {ds : List Dat} (ha : Fz w H a = some (.lst xs)) (r : RpL G.K w.as (Fz w H) ds xs) : Wk G w H (Ite G.K a) (pairs (ups 0 ds.length) ds) := by
  have at_ : ∀ {w' H'}, FExt w H w' H' → SqL G.K H' a xs := fun {w' H'} x => .inl (.inl (Fz_sub _ _ (x.same _ _ ha)))
  have l1 := r.length
  refine ⟨fun w' H' x i hi => ?_, fun w' H' x i hi => ⟨xs, at_ x, ?_⟩, fun w' e s σ H' H'' i v I x hi y => ?_⟩
  · rw [pairs_len, ups_len] at hi
    have h1 : i < xs.length := by omega
    exact ⟨xs, xs[i], at_ x, List.getElem?_eq_getElem h1⟩
  · rw [pairs_len, ups_len] at hi
    omega
  · obtain ⟨T, y1, rfl, hT, rfl, f2⟩ := y
    obtain ⟨d2, g2, k2⟩ := r.get (f2 xs (at_ x))
    rw [pairs_len, ups_len] at hi
    obtain ⟨J, E, R⟩ := pair_new I hT (rp_i (i := (i : Int))) (x.rp k2)
    refine ⟨J, E, _, pairs_get ?_ g2, R⟩
    unfold ups
    rw [List.getElem?_map, List.getElem?_range (by omega)]
    simp
@[simp] def gZip : List Dat → Sto → Res (List Dat) := fun ds s => match ds with
  | [.list xs, .list ys] => .ok (pairs xs ys) s
  | [.tuple xs, .tuple ys] => .ok (pairs xs ys) s
  | _ => .bad
@[simp] def gEnum : List Dat → Sto → Res (List Dat) := fun ds s => match ds with
  | [.list xs] => .ok (pairs (ups 0 xs.length) xs) s
  | _ => .bad
theorem di_zip {a b : Expr} {p pos tpos : Pos} {elts : List Expr} {kk : Nat} {Fs : FA} (hK : X.K = G.K) (hm : X.mg "zip" = none) (ha : PA X [a, b] (tA G Fs)) (hg : Gl X "zip" := by rfl)
    (hs : starEach [a, b] X.env = (false, eval a X.env) :: starEach [b] X.env := by rfl) (hpl : (backTo pos (starEach [b] X.env)).any (·.1) = false := by rfl) : PI X (.Tuple elts kk tpos) (.Call (.Name "zip" p) [a, b] [] pos) (tI G (fItA gZip Fs)) :=
  PI_imp (RZ.pi_zipA hg hm ha hs hpl) fun σ H R ⟨w, e, s, I, h⟩ => by
    rw [hK]
    refine ⟨w, e, s, I, holds_imp (holds_bind h) fun ds s1 h1 w1 vs H1 I1 x1 r1 => ?_⟩
    unfold gZip at h1
    split at h1
    · obtain ⟨v, v2, rfl, k, k2⟩ := rpl2 r1
      obtain ⟨p, xs, rfl, hp, rx⟩ := rp_list k
      obtain ⟨q, ys, rfl, hq, ry⟩ := rp_list k2
      exact ⟨p, q, xs, ys, rfl, .inl ⟨.inl (.inl (Fz_sub _ _ hp)), .inl (.inl (Fz_sub _ _ hq)), h1 w1 H1 _ I1 x1 (wk_zip hp rx hq ry)⟩⟩
    · obtain ⟨v, v2, rfl, k, k2⟩ := rpl2 r1
      obtain ⟨p, xs, rfl, hp, rx⟩ := rp_tuple k
      obtain ⟨q, ys, rfl, hq, ry⟩ := rp_tuple k2
      exact ⟨p, q, xs, ys, rfl, .inr ⟨sqT_mono Fz_sub hp, sqT_mono Fz_sub hq, h1 w1 H1 _ I1 x1 (wk_zipT hp rx hq ry)⟩⟩
    · exact h1.elim
theorem di_enum {a : Expr} {p pos tpos : Pos} {elts : List Expr} {kk : Nat} {Fs : FA} (hK : X.K = G.K) (hm : X.mg "enumerate" = none) (ha : PA X [a] (tA G Fs)) (hg : Gl X "enumerate" := by rfl) (hs : starEach [a] X.env = [(false, eval a X.env)] := by rfl) :
    PI X (.Tuple elts kk tpos) (.Call (.Name "enumerate" p) [a] [] pos) (tI G (fItA gEnum Fs)) :=
  PI_imp (pi_enum hg hm ha hs) fun σ H R ⟨w, e, s, I, h⟩ => by
    rw [hK]
    refine ⟨w, e, s, I, holds_imp (holds_bind h) fun ds s1 h1 w1 vs H1 I1 x1 r1 => ?_⟩
    unfold gEnum at h1
    split at h1
    · obtain ⟨v, rfl, k⟩ := rpl1 r1
      obtain ⟨p, xs, rfl, hp, rx⟩ := rp_list k
      exact ⟨p, xs, rfl, .inl (.inl (Fz_sub _ _ hp)), h1 w1 H1 _ I1 x1 (wk_enum hp rx)⟩
    · exact h1.elim
@[simp] def forL (F : FG) (B : FS) : List Dat → FS
  | [], e, s => .nx e s
  | d :: ds, e, s => (F d e s).noex.flo e fun e1 s1 => match B e1 s1 with
    | .nx e2 s2 => forL F B ds e2 s2
    | .ct e2 s2 => forL F B ds e2 s2
    | .bk e2 s2 => .nx e2 s2
    | .rt d s2 => .rt d s2
    | .ex x e2 s2 => .ex x e2 s2
    | .bad => .bad
@[simp] def sFor (Fi : FA) (F : FG) (B : FS) : FS := fun e s => (Fi e s).flo e fun ds s1 => forL F B ds e s1
theorem ds_for {tg iter : Expr} {body : List Stmt} {pos : Pos} {Fi : FA} {F : FG} {B : FS} {is : List Nat} (hp : PassesOwn (model X.prog X.w) X.A X.env X.xe) (hc : X.calm = true) (hi : PI X tg iter (tI G Fi)) (hg : PG X tg (tG G is F)) (hb : PSs X body (tS G B))
    (hs : ∀ x, foldedSetIterable iter X.env x = pure x := by intro _; rfl) : PS X (.For tg iter body [] pos) (tS G (sFor Fi F B)) := PS_imp (ps_for hp hc hi hg hb hs) fun D σ H ⟨w, e, s, I, h⟩ => by
  refine ⟨w, e, s, I, holds_imp (flo_holds h) fun ds s1 h1 w1 H1 J I1 x1 W => ?_⟩
  refine ⟨fun i m σ2 H2 => m = ds.length - i ∧ i ≤ ds.length ∧ ∃ w2 e2 s2, IE G w2 e2 s2 σ2 H2 ∧ FExt w1 H1 w2 H2 ∧ kS G w2 H2 D (forL F B (ds.drop i) e2 s2),
    ⟨ds.length, by omega, Nat.zero_le _, w1, e, s1, I1, .refl, kS_ext x1.f h1⟩, ?_⟩
  rintro i m σ2 H2 ⟨rfl, hi, w2, e2, s2, I2, x2, q⟩
  by_cases hlt : i < ds.length
  · refine .inr ⟨W.go w2 H2 x2 i hlt, fun σ3 H3 => ∃ w3 e3 s3, IE G w3 e3 s3 σ3 H3 ∧ FExt w1 H1 w3 H3 ∧ kS G w3 H3 D (forL F B (ds.drop (i + 1)) e3 s3), fun σ3 H3 ⟨w3, e3, s3, I3, x3, q3⟩ => ⟨ds.length - (i + 1), by omega, rfl, hlt, w3, e3, s3, I3, x3, q3⟩, fun v H3 y => ?_⟩
    obtain ⟨I3, x3, d, hd, rd⟩ := W.yld w2 e2 s2 σ2 H2 H3 i v I2 x2 hlt y
    have ed : ds.drop i = d :: ds.drop (i + 1) := by
      rw [List.drop_eq_getElem_cons hlt]
      rw [List.getElem?_eq_getElem hlt] at hd
      cases hd
      rfl
    rw [ed] at q
    unfold forL at q
    refine ⟨w2, e2, s2, d, I3, rd, holds_imp (holds_noex (flo_holds (e := e2) (σ := σ2) q) _) fun e4 s4 h4 w4 σ4 H4 I4 x4 _ _ => ?_⟩
    have x24 : FExt w2 H2 w4 H4 := x3.f.trans x4.f
    refine ⟨w4, e4, s4, I4, ?_⟩
    cases z : B e4 s4 with
    | bad => rw [z] at h4; exact h4
    | nx e5 s5 =>
      rw [z] at h4
      exact fun w5 σ5 H5 I5 x5 => ⟨w5, e5, s5, I5, (x2.trans x24).trans x5, kS_ext (x24.trans x5) h4⟩
    | ct e5 s5 =>
      rw [z] at h4
      exact fun w5 σ5 H5 I5 x5 => ⟨w5, e5, s5, I5, (x2.trans x24).trans x5, kS_ext (x24.trans x5) h4⟩
    | bk e5 s5 =>
      rw [z] at h4
      exact fun w5 σ5 H5 I5 x5 => h4 w5 σ5 H5 I5 (x24.trans x5)
    | rt d5 s5 =>
      rw [z] at h4
      exact fun w5 e6 σ5 v5 H5 I5 x5 => h4 w5 e6 σ5 v5 H5 I5 (x24.trans x5)
    | ex y5 e5 s5 =>
      rw [z] at h4
      exact fun w5 σ5 H5 cls d I5 x5 => h4 w5 σ5 H5 cls d I5 (x24.trans x5)
  · have e0 : ds.drop i = [] := List.drop_eq_nil_of_le (by omega)
    rw [e0] at q
    exact .inl ⟨W.stop w2 H2 x2 i (by omega), q w2 σ2 H2 I2 .refl⟩
def whileN (C : FT) (B : FS) : Nat → FS
  | 0, _, _ => .bad
  | n + 1, e, s => (C e s).flo e fun c s1 => if c then (match B e s1 with
    | .nx e2 s2 => whileN C B n e2 s2
    | .ct e2 s2 => whileN C B n e2 s2
    | .bk e2 s2 => .nx e2 s2
    | .rt d s2 => .rt d s2
    | .ex x e2 s2 => .ex x e2 s2
    | .bad => .bad) else .nx e s1
def turns : Nat := 2 ^ 62
def sWhile (C : FT) (B : FS) : FS := whileN C B turns
theorem while_ex {C : FT} {B : FS} {e : Lcs} {s : Sto} (h : sWhile C B e s ≠ .bad) : ∃ n, whileN C B n e s = sWhile C B e s ∧ whileN C B n e s ≠ .bad := ⟨turns, rfl, h⟩
theorem ds_while {c : Expr} {body : List Stmt} {pos : Pos} {C : FT} {B : FS} (hp : PassesOwn (model X.prog X.w) X.A X.env X.xe) (hc : PT X c (tT G C)) (hb : PSs X body (tS G B)) : PS X (.While c body [] pos) (tS G (sWhile C B)) := PS_imp (ps_while hp hc hb) fun D σ H ⟨w, e, s, I, h⟩ => by
  have nb : sWhile C B e s ≠ .bad := fun z => by rw [z] at h; exact h
  obtain ⟨n, e1, e2⟩ := while_ex nb
  refine ⟨fun m σ2 H2 => ∃ w2 e2 s2, IE G w2 e2 s2 σ2 H2 ∧ FExt w H w2 H2 ∧ kS G w2 H2 D (whileN C B m e2 s2), ⟨n, w, e, s, I, .refl, by rw [e1]; exact h⟩, ?_⟩
  rintro m σ2 H2 ⟨w2, e2, s2, I2, x2, q⟩
  cases m with
  | zero => exact q.elim
  | succ m =>
    unfold whileN at q
    refine ⟨w2, e2, s2, I2, holds_imp (flo_holds q) fun b s3 h3 w3 H3 I3 x3 => ?_⟩
    cases b with
    | false => exact iteF (h3 w3 σ2 H3 I3 x3.f)
    | true =>
      refine iteT ⟨fun σ4 H4 => ∃ w4 e4 s4, IE G w4 e4 s4 σ4 H4 ∧ FExt w H w4 H4 ∧ kS G w4 H4 D (whileN C B m e4 s4), fun σ4 H4 k => ⟨m, Nat.lt_succ_self _, k⟩, w3, e2, s3, I3, ?_⟩
      simp only [if_true] at h3
      cases z : B e2 s3 with
      | bad => rw [z] at h3; exact h3
      | nx e5 s5 =>
        rw [z] at h3
        exact fun w5 σ5 H5 I5 x5 => ⟨w5, e5, s5, I5, (x2.trans x3.f).trans x5, kS_ext (x3.f.trans x5) h3⟩
      | ct e5 s5 =>
        rw [z] at h3
        exact fun w5 σ5 H5 I5 x5 => ⟨w5, e5, s5, I5, (x2.trans x3.f).trans x5, kS_ext (x3.f.trans x5) h3⟩
      | bk e5 s5 =>
        rw [z] at h3
        exact fun w5 σ5 H5 I5 x5 => h3 w5 σ5 H5 I5 (x3.f.trans x5)
      | rt d5 s5 =>
        rw [z] at h3
        exact fun w5 e6 σ5 v5 H5 I5 x5 => h3 w5 e6 σ5 v5 H5 I5 (x3.f.trans x5)
      | ex y5 e5 s5 =>
        rw [z] at h3
        exact fun w5 σ5 H5 cls d I5 x5 => h3 w5 σ5 H5 cls d I5 (x3.f.trans x5)
end
end DL
namespace DL
open PySem PySem.Spec PyProof.Rows L2
section
variable {X : Cx} {G : Gx}
@[simp] def wipeE (e : Lcs) : List Nat → Lcs
  | [] => e
  | v :: vs => (wipeE e vs).set v .un
theorem IE.wipe1 {w : Wd} {e : Lcs} {s : Sto} {σ : L2.St} {H : Hp} (I : IE G w e s σ H) (i : Nat) : IE G w (e.set i .un) s (σ.set i none) H := by
  have nf : ∀ {j : Nat} {z : Slt}, z ≠ .un → (e.set i .un)[j]? = some z → i ≠ j ∧ e[j]? = some z := fun {j z} hz h => by
    by_cases q : i = j
    · subst q
      by_cases hi : i < e.length
      · rw [List.getElem?_set_self hi] at h; cases h; exact absurd rfl hz
      · rw [List.getElem?_eq_none (by rw [List.length_set]; omega)] at h; cases h
    · rw [List.getElem?_set_ne q] at h; exact ⟨q, h⟩
  refine ⟨by rw [List.length_set, List.length_set]; exact I.len, fun j d h => ?_, fun j ds h => ?_, fun a b q es fs k1 k2 k3 k4 => ?_, I.slen, I.cells, I.nd, I.dis, I.beg, I.o0, I.there, I.keep, I.cfresh⟩
  · obtain ⟨q, h'⟩ := nf (by simp) h
    rw [List.getElem?_set_ne q]
    exact I.slot j d h'
  · obtain ⟨q, h'⟩ := nf (by simp) h
    rw [List.getElem?_set_ne q]
    exact I.own j ds h'
  · obtain ⟨q1, h1⟩ := nf (by simp) k1
    obtain ⟨q2, h2⟩ := nf (by simp) k2
    rw [List.getElem?_set_ne q1] at k3
    rw [List.getElem?_set_ne q2] at k4
    exact I.inj a b q es fs h1 h2 k3 k4
theorem IE.wipe {w : Wd} {e : Lcs} {s : Sto} {σ : L2.St} {H : Hp} (I : IE G w e s σ H) : ∀ vs : List Nat, IE G w (wipeE e vs) s (wipe σ vs) H
  | [] => I
  | v :: vs => (IE.wipe I vs).wipe1 v
theorem wipe_get {σ : L2.St} {i : Nat} : ∀ {vs : List Nat}, i ∉ vs → (wipe σ vs)[i]? = σ[i]?
  | [], _ => rfl
  | v :: vs, h => by
    unfold L2.wipe
    rw [List.getElem?_set_ne fun (z : v = i) => h (by rw [z]; simp)]
    exact wipe_get fun z => h (List.mem_cons_of_mem _ z)
theorem wipe_in {σ : L2.St} {i : Nat} (hi : i < σ.length) : ∀ {vs : List Nat}, i ∈ vs → (wipe σ vs)[i]? = some none
  | v :: vs, h => by
    unfold L2.wipe
    by_cases z : v = i
    · subst z
      rw [List.getElem?_set_self (by rw [wipe_length]; exact hi)]
    · rw [List.getElem?_set_ne z]
      exact wipe_in hi ((List.mem_cons.mp h).resolve_left fun q => z q.symm)
theorem wipe_eq {σ σ' : L2.St} {vs : List Nat} (hl : σ'.length = σ.length) (h : ∀ i, i ∉ vs → σ'[i]? = σ[i]?) : wipe σ' vs = wipe σ vs := by
  apply List.ext_getElem?
  intro i
  by_cases hi : i ∈ vs
  · by_cases hl' : i < σ.length
    · rw [wipe_in hl' hi, wipe_in (by rw [hl]; exact hl') hi]
    · rw [List.getElem?_eq_none (by rw [wipe_length, hl]; omega), List.getElem?_eq_none (by rw [wipe_length]; omega)]
  · rw [wipe_get hi, wipe_get hi, h i hi]
@[simp] def lcL (F : FG) (C : FT) (Fe : FE) (e : Lcs) : List Dat → Sto → Res (List Dat)
  | [], s => .ok [] s
  | d :: ds, s => (F d e s).noex.bind fun e1 s1 => (C e1 s1).noex.bind fun b s2 => if b then (Fe e1 s2).noex.bind fun y s3 => (lcL F C Fe e ds s3).bind fun ys s4 => .ok (y :: ys) s4 else lcL F C Fe e ds s2
@[simp] def fLc (Fi : FA) (F : FG) (C : FT) (Fe : FE) (vs : List Nat) : FE := fun e s => (Fi e s).bind fun ds s1 => if decide (ds.length < sizeLine) then (lcL F C Fe (wipeE e vs) ds s1).bind fun ys s2 => .ok (.list ys) s2 else .bad
@[simp] def cYes : FT := fun _ s => .ok true s
theorem dt_yes {σ : L2.St} {H : Hp} {Q : Bool → Hp → Prop} (h : tT G cYes σ H Q) : tYes σ H Q := by
  obtain ⟨w, e, s, I, h⟩ := h
  exact h w H I .refl
theorem PTs_imp {a : List Expr} {t t' : TT} (h : PTs X a t) (k : ∀ σ H Q, t' σ H Q → t σ H Q) : PTs X a t' := ⟨fun pins s σ H Q I q => h.run pins s σ H Q I (k _ _ _ q)⟩
theorem dts_nil : PTs X [] (tT G cYes) := PTs_imp pts_nil fun _ _ _ h => dt_yes h
theorem dts_one {c : Expr} {C : FT} (h : PT X c (tT G C)) : PTs X [c] (tT G C) := pts_one h
theorem lc_of {Fi : FA} {F : FG} {C : FT} {Fe : FE} {vs is : List Nat} (his : ∀ i ∈ is, i ∈ vs) {σ : L2.St} {H : Hp} {Q : VK} (h : tE G (fLc Fi F C Fe vs) σ H Q) : tLc (tI G Fi) (tG G is F) (tT G C) (tE G Fe) vs σ H Q := by
  obtain ⟨w, e, s, I, h⟩ := h
  refine ⟨w, e, s, I, holds_imp (holds_bind h) fun ds s1 h1 w1 H1 J I1 x1 W D hD => ?_⟩
  have hz : ds.length < sizeLine := by
    by_cases q : ds.length < sizeLine
    · exact q
    · rw [if_neg (by simpa using q)] at h1
      exact h1.elim
  rw [if_pos (by simpa using hz)] at h1
  -- the new list is the loop's own
  have lone : Lone (wipeE e vs) (wipe σ vs) D := (I1.wipe vs).lone hD
  have d0 : G.H0 D = none := I1.fresh0 hD
  have dn : ¬ w1.ow D := I1.freshO hD
  have d00 : ¬ G.O0 D := I1.freshO0 hD
  have I2 : IE G (w1.plus D) (wipeE e vs) s1 (wipe σ vs) (upd H1 D (.lst [])) := (I1.wipe vs).plus hD
  refine ⟨fun i m H2 => m = ds.length - i ∧ i ≤ ds.length ∧ ∃ w2 s2 acc avs, IE G w2 (wipeE e vs) s2 (wipe σ vs) H2 ∧ FExt w1 H1 w2 H2 ∧ w2.ow = (w1.plus D).ow ∧ (∀ a, w1.ow a → H2 a = H1 a) ∧ H2 D = some (.lst avs) ∧ RpL G.K w2.as (Fz w2 H2) acc avs ∧ acc.length ≤ i ∧
      (lcL F C Fe (wipeE e vs) (ds.drop i) s2).holds (fun ys s3 => kE G w1 e σ H1 Q (.list (acc ++ ys)) s3) (kX G w1 e σ H1),
    ⟨ds.length, by omega, Nat.zero_le _, w1.plus D, s1, [], [], I2, plus_f hD, rfl, fun a ha => upd_ne fun (z : a = D) => dn (by rw [← z]; exact ha), upd_same, RpL.nil, Nat.le_refl _, ?_⟩, ?_⟩
  · refine holds_imp (holds_bind h1) fun ys s2 h2 => ?_
    exact kE_ext x1 h2
  rintro i m H2 ⟨rfl, hi, w2, s2, acc, avs, J2, x2, o2, k2, hD2, ra, la, q⟩
  have owD : w2.ow D := by rw [o2]; exact .inr rfl
  by_cases hlt : i < ds.length
  · refine .inr ⟨W.go w2 H2 x2 i hlt, fun H3 => ∃ w3 s3 acc avs, IE G w3 (wipeE e vs) s3 (wipe σ vs) H3 ∧ FExt w1 H1 w3 H3 ∧ w3.ow = (w1.plus D).ow ∧ (∀ a, w1.ow a → H3 a = H1 a) ∧ H3 D = some (.lst avs) ∧ RpL G.K w3.as (Fz w3 H3) acc avs ∧ acc.length ≤ i + 1 ∧
        (lcL F C Fe (wipeE e vs) (ds.drop (i + 1)) s3).holds (fun ys s4 => kE G w1 e σ H1 Q (.list (acc ++ ys)) s4) (kX G w1 e σ H1), fun H3 k => ⟨ds.length - (i + 1), by omega, rfl, hlt, k⟩, fun v H3 y => ?_⟩
    obtain ⟨J3, x3, d, hd, rd⟩ := W.yld w2 _ s2 _ H2 H3 i v J2 x2 hlt y
    have ed : ds.drop i = d :: ds.drop (i + 1) := by
      rw [List.drop_eq_getElem_cons hlt]
      rw [List.getElem?_eq_getElem hlt] at hd
      cases hd
      rfl
    rw [ed] at q
    unfold lcL at q
    -- what is true behind any expression of the turn
    have on : ∀ {w5 : Wd} {H5 : Hp}, EExt w2 H2 w5 H5 → FExt w1 H1 w5 H5 ∧ w5.ow = (w1.plus D).ow ∧ (∀ a, w1.ow a → H5 a = H1 a) ∧ H5 D = some (.lst avs) ∧ RpL G.K w5.as (Fz w5 H5) acc avs := fun {w5 H5} x =>
      ⟨x2.trans x.f, x.ow.trans o2, fun a ha => (x.own a (by rw [o2]; exact .inl ha)).trans (k2 a ha), (x.own D owD).trans hD2, x.rpl ra⟩
    refine ⟨w2, wipeE e vs, s2, d, J3, rd, holds_imp (holds_noex (holds_bind q) _) fun e4 s4 h4 w4 σ4 H4 I4 x4 a4 l4 => ?_⟩
    have hw : wipe σ4 vs = wipe σ vs := by
      have e1 : wipe σ4 vs = wipe (wipe σ vs) vs := wipe_eq l4 fun j hj => a4 j fun z => hj (his j z)
      have e2 : wipe (wipe σ vs) vs = wipe σ vs := wipe_eq (wipe_length σ vs) fun j hj => wipe_get hj
      exact e1.trans e2
    refine ⟨hw, w4, e4, s4, I4, holds_imp (holds_noex (holds_bind h4) _) fun b s5 h5 w5 H5 I5 x5 => ?_⟩
    have x25 := x3.trans (x4.trans x5)
    cases b with
    | true =>
      simp only [if_true] at h5
      refine iteT ⟨w5, e4, s5, I5, holds_imp (holds_noex (holds_bind h5) _) fun y s6 h6 w6 yv H6 I6 x6 r6 => ?_⟩
      have x26 := x25.trans x6
      obtain ⟨g1, g2, g3, g4, g5⟩ := on x26
      refine ⟨avs, g4, by rw [ra.length]; omega, ?_⟩
      have J6 : IE G w6 (wipeE e vs) s6 (wipe σ vs) H6 := J2.re x26 I6
      have ow6 : w6.ow D := by rw [g2]; exact .inr rfl
      refine ⟨w6, s6, acc ++ [y], avs ++ [yv], J6.write ow6 d0 lone, g1.trans (write_f ow6), g2, fun a ha => ?_, upd_same, ?_, by simp; omega, ?_⟩
      · rw [upd_ne fun (z : a = D) => dn (by rw [← z]; exact ha)]
        exact g3 a ha
      · rw [Fz_own ow6]
        exact g5.append (RpL.one r6)
      · refine holds_imp (holds_bind h6) fun ys s7 h7 => ?_
        have h7' : kE G w1 e σ H1 Q (.list (acc ++ (y :: ys))) s7 := h7
        rw [List.append_assoc]
        exact h7'
    | false =>
      simp only [Bool.false_eq_true, if_false] at h5
      obtain ⟨g1, g2, g3, g4, g5⟩ := on x25
      exact iteF ⟨w5, s5, acc, avs, J2.re x25 I5, g1, g2, g3, g4, g5, by omega, h5⟩
  · have e0 : ds.drop i = [] := List.drop_eq_nil_of_le (by omega)
    rw [e0] at q
    refine .inl ⟨W.stop w2 H2 x2 i (by omega), ?_⟩
    have q' : kE G w1 e σ H1 Q (.list (acc ++ [])) s2 := q
    rw [List.append_nil] at q'
    -- the list is no one's own any more
    have sm2 : Same (Fz w2 H2) (Fz ⟨w2.as, w1.ow⟩ H2) := fun a o h => by
      obtain ⟨z1, z2, z3⟩ := Fz_get h
      exact Fz_of z1 z2 fun z => z3 (by rw [o2]; exact .inl z)
    have ex : EExt w1 H1 ⟨w2.as, w1.ow⟩ H2 := ⟨x2.beg, x2.same.trans sm2, rfl, k2⟩
    have J : IE G ⟨w2.as, w1.ow⟩ (wipeE e vs) s2 (wipe σ vs) H2 := by
      refine ⟨J2.len, fun j d h => ?_, fun j es h => ?_, J2.inj, J2.slen, fun n es h => ?_, J2.nd, fun a ha z => J2.dis a ha (by rw [o2]; exact .inl z), J2.beg, fun a ha => ?_, fun a ha => J2.there a (by rw [o2]; exact .inl ha), J2.keep, J2.cfresh⟩
      · obtain ⟨v, z1, z2⟩ := J2.slot j d h
        exact ⟨v, z1, Rp.mono (.refl _) sm2 _ _ z2⟩
      · obtain ⟨p, us, z1, z2, z3, z4, z5, z6⟩ := J2.own j es h
        refine ⟨p, us, z1, ?_, z3, z4, z5, CR.mono (.refl _) sm2 z6⟩
        rw [o2] at z2
        rcases z2 with z2 | z2
        · exact z2
        · subst z2; exact absurd z1 (lone j es h)
      · obtain ⟨a, us, z1, z2, z3⟩ := J2.cells n es h
        exact ⟨a, us, z1, z2, CR.mono (.refl _) sm2 z3⟩
      · exact I1.o0 a ha
    refine q' ⟨w2.as, w1.ow⟩ (.ref D) H2 (I1.re ex J) ex ?_
    simp only [Rp]
    exact ⟨D, avs, rfl, Fz_of hD2 (fun z => J2.dis D z owD) dn, RpL.mono (.refl _) sm2 _ _ ra⟩
theorem de_lc {elt tg iter : Expr} {ifs : List Expr} {scope : Scope} {own : List (Str × Nat)} {pos : Pos} {Fi : FA} {F : FG} {C : FT} {Fe : FE} {is : List Nat} (hc : X.calm = true) (hN : X.N.Nodup) (ok : BlkOk X.N X.env.scope scope own) (hi : PI X tg iter (tI G Fi))
    (hg : ∀ (s : Shared) (H : Hp) (A : Addr) (cl : List (Str × Addr)) (fp : List Addr), PG (X.blk s H scope (compEnvC scope cl A X.env) fp) tg (tG G is F)) (ht : ∀ (s : Shared) (H : Hp) (A : Addr) (cl : List (Str × Addr)) (fp : List Addr), PTs (X.blk s H scope (compEnvC scope cl A X.env) fp) ifs (tT G C))
    (he : ∀ (s : Shared) (H : Hp) (A : Addr) (cl : List (Str × Addr)) (fp : List Addr), PE (X.blk s H scope (compEnvC scope cl A X.env) fp) elt (tE G Fe)) (his : ∀ i ∈ is, i ∈ own.map (·.2) := by decide) (hs : ∀ x, foldedSetIterable iter X.env x = pure x := by intro _; rfl) :
    PE X (.ListComp elt [⟨tg, iter, ifs, 0⟩] scope pos) (tE G (fLc Fi F C Fe (own.map (·.2)))) := PE_imp (pe_lc hc hN hi ok hg ht he hs) fun _ _ _ h => lc_of his h
theorem ds_setLc (i : Nat) {y : Str} {py : Pos} {elt tg iter : Expr} {ifs : List Expr} {scope : Scope} {own : List (Str × Nat)} {pos spos : Pos} {Fi : FA} {F : FG} {C : FT} {Fe : FE} {is : List Nat} (hc : X.calm = true) (hN : X.N.Nodup) (ok : BlkOk X.N X.env.scope scope own)
    (hsw : swapsWith (.ListComp elt [⟨tg, iter, ifs, 0⟩] scope pos) (some (.Name y py)) spos.line X.env = pure true) (hi : PI X tg iter (tI G Fi))
    (hg : ∀ (s : Shared) (H : Hp) (A : Addr) (cl : List (Str × Addr)) (fp : List Addr), PG (X.blk s H scope (compEnvC scope cl A X.env) fp) tg (tG G is F)) (ht : ∀ (s : Shared) (H : Hp) (A : Addr) (cl : List (Str × Addr)) (fp : List Addr), PTs (X.blk s H scope (compEnvC scope cl A X.env) fp) ifs (tT G C))
    (he : ∀ (s : Shared) (H : Hp) (A : Addr) (cl : List (Str × Addr)) (fp : List Addr), PE (X.blk s H scope (compEnvC scope cl A X.env) fp) elt (tE G Fe)) (hy : X.N[i]? = some y := by rfl) (hyl : X.env.scope.names.lookup y = some .local := by rfl)
    (his : ∀ i ∈ is, i ∈ own.map (·.2) := by decide) (hs : ∀ x, foldedSetIterable iter X.env x = pure x := by intro _; rfl) :
    PS X (.Assign [.Name y py] (.ListComp elt [⟨tg, iter, ifs, 0⟩] scope pos) spos) (tS G (sSet i (fLc Fi F C Fe (own.map (·.2))))) :=
  PS_imp (ps_setLc hc hN hy hyl hsw hi ok hg ht he hs) fun D σ H h => by
    obtain ⟨w, e, s, I, h'⟩ := tAsg_of (is := [i]) h
    exact lc_of his ⟨w, e, s, I, holds_imp h' fun d s1 k w1 v H1 I1 x1 r1 => gName_of (k w1 v H1 I1 x1 r1) (by simp)⟩
structure CI (xc : Xc) (K : PySem.W.Frag) (w : Wd) (s : Sto) (H : Hp) : Prop where
  slen : w.as.length = s.length
  cells : ∀ (n : Nat) c, s[n]? = some c → ∃ a ho, w.as[n]? = some a ∧ H a = some ho ∧ CR xc K w.as (Fz w H) a c ho
  nd : w.as.Nodup
  dis : ∀ a ∈ w.as, ¬ w.ow a
  there : ∀ a, w.ow a → H a ≠ none
structure Aft (xc : Xc) (K : PySem.W.Frag) (w : Wd) (H : Hp) (w' : Wd) (s' : Sto) (H' : Hp) : Prop where
  ow : w'.ow = w.ow
  beg : Beg w.as w'.as
  ci : CI xc K w' s' H'
  same : Same (Fz w H) (Fz w' H')
  kept : ∀ a o, H a = some o → a ∉ w.as → H' a = some o
  fresh : ∀ a, a ∈ w'.as → a ∉ w.as → H a = none
def spX (K : PySem.W.Frag) (xc : Xc) (g : List Dat → Sto → Res Dat) : Sp := fun vs H Q E => ∃ w ds s, CI xc K w s H ∧ RpL K w.as (Fz w H) ds vs ∧ (g ds s).holds (fun d s' => ∀ w' v H', Aft xc K w H w' s' H' → Rp K w'.as (Fz w' H') d v → Q v H')
  fun x s' => ∀ w' H' cls d, Aft xc K w H w' s' H' → ExR K xc w'.as (Fz w' H') x cls d → E cls d H'
theorem IE.ci {w : Wd} {e : Lcs} {s : Sto} {σ : L2.St} {H : Hp} (I : IE G w e s σ H) : CI G.xc G.K w s H := ⟨I.slen, I.cells, I.nd, I.dis, I.there⟩
@[simp] def runF (n m : Nat) (F : FS) : List Dat → Sto → Res Dat := fun ds s => if ds.length = n then (match F (ds.map Slt.fz ++ List.replicate (m - n) Slt.un) s with
  | .nx _ s' => .ok .none s'
  | .rt d s' => .ok d s'
  | .ex x _ s' => .ex x s'
  | _ => .bad) else .bad
theorem IE.back {G : Gx} {w1 w2 : Wd} {e : Lcs} {s1 s2 : Sto} {σ : L2.St} {H1 H2 : Hp} (I1 : IE G w1 e s1 σ H1) (af : Aft G.xc G.K w1 H1 w2 s2 H2) : IE G w2 e s2 σ H2 ∧ EExt w1 H1 w2 H2 := by
  obtain ⟨o2, b2, c2, sm2, kp2, nw2⟩ := af
  have ex : EExt w1 H1 w2 H2 := ⟨b2, sm2, o2, fun b hb => by
    cases z : H1 b with
    | none => exact absurd z (I1.there b hb)
    | some o => exact kp2 b o z fun y => I1.dis b y hb⟩
  refine ⟨I1.re ex (e2 := []) (σ2 := []) ⟨rfl, fun i d h => by simp at h, fun i d h => by simp at h, fun i j p ds es h => by simp at h, c2.slen, c2.cells, c2.nd, c2.dis, I1.beg.trans b2, fun b hb => by rw [o2]; exact I1.o0 b hb, c2.there, fun b o h0 hb => ?_, fun b hb hb0 => ?_⟩, ex⟩
  · refine kp2 b o (I1.keep b o h0 hb) fun z => ?_
    have := I1.cfresh b z hb
    rw [h0] at this; cases this
  · by_cases z : b ∈ w1.as
    · exact I1.cfresh b z hb0
    · exact I1.fresh0 (nw2 b hb z)
@[simp] def fCallD (g : List Dat → Sto → Res Dat) (Fs : FA) : FE := fun e s => (Fs e s).bind fun ds s1 => (g ds s1).noex
theorem de_call {x : Str} {p pos : Pos} {a : Expr} {es : List Expr} {CX : CXT} {k : Nat} {f : Addr} {fd : FuncData} {ps : List Str} {g : List Dat → Sto → Res Dat} {Fs : FA} {E : XK} (GF : FnOk X.prog X.w X.K X.mg X.base CX k f fd ps (spX G.K G.xc g)) (hr : Room k X.A)
    (hm : X.mg x = some (.ref f)) (hk : PySem.W.keepIn X.K (.ref f) = true) (hb : Binds X.K fd ps []) (hx : Passes CX X E) (ha : PA X (a :: es) (tA G Fs)) (hg : Gl X x := by rfl) (hdb : (x == ("__debug__" : Str)) = false := by decide)
    (he : starEach (a :: es) X.env = (false, eval a X.env) :: starEach es X.env := by rfl) (hpl : (backTo pos (starEach es X.env)).any (·.1) = false := by rfl) : PE X (.Call (.Name x p) (a :: es) [] pos) (tE G (fCallD g Fs)) :=
  PE_imp (pe_call GF hr hg hm hk hb .nil hx ha hdb he hpl) fun σ H Q ⟨w, e, s, I, h⟩ => by
    unfold fCallD at h
    refine ⟨w, e, s, I, holds_imp (holds_bind h) fun ds s1 h1 w1 vs H1 I1 x1 r1 => ?_⟩
    refine ⟨w1, ds, s1, I1.ci, by rw [List.append_nil]; exact r1, holds_imp (holds_noex h1 (fun _ _ => False)) (fun d s2 h2 w2 v H2 af r2 => ?_) fun _ _ z => z.elim⟩
    obtain ⟨J, ex⟩ := I1.back af
    exact h2 w2 v H2 J (x1.trans ex) r2
theorem de_callR {x : Str} {p pos : Pos} {a : Expr} {es : List Expr} {k : Nat} {f : Addr} {fd : FuncData} {ps : List Str} {g : List Dat → Sto → Res Dat} {Fs : FA} (GF : FnOk X.prog X.w X.K X.mg X.base (L2.CX X.prog X.w) k f fd ps (spX G.K G.xc g)) (hr : Room k X.A)
    (hm : X.mg x = some (.ref f)) (hk : PySem.W.keepIn X.K (.ref f) = true) (hb : Binds X.K fd ps []) (tk : Takes X G.W) (ha : PA X (a :: es) (tA G Fs)) (hg : Gl X x := by rfl) (hdb : (x == ("__debug__" : Str)) = false := by decide)
    (he : starEach (a :: es) X.env = (false, eval a X.env) :: starEach es X.env := by rfl) (hpl : (backTo pos (starEach es X.env)).any (·.1) = false := by rfl) :
    PE X (.Call (.Name x p) (a :: es) [] pos) (tE G (fCall g Fs)) :=
  PE_imp (pe_callS GF hr hg hm hk hb (fun σ => passAt tk σ) ha hdb he hpl) fun σ H Q ⟨w, e, s, I, h⟩ => by
    unfold fCall at h
    refine ⟨w, e, s, I, holds_imp (holds_bind h) fun ds s1 h1 w1 vs H1 I1 x1 r1 => ?_⟩
    refine ⟨w1, ds, s1, I1.ci, r1, holds_imp h1 (fun d s2 h2 w2 v H2 af r2 => ?_) fun y s2 h2 w2 H2 cls d af r2 => ?_⟩
    · obtain ⟨J, ex⟩ := I1.back af
      exact h2 w2 v H2 J (x1.trans ex) r2
    · obtain ⟨J, ex⟩ := I1.back af
      exact h2 w2 H2 cls d J (x1.trans ex) r2
theorem start_get {N : List Str} {vs : List V} {i : Nat} {v : V} (h : vs[i]? = some v) : (L2.start N vs)[i]? = some (some v) := by
  unfold L2.start
  rw [List.getElem?_append_left (by rw [List.length_map]; exact (List.getElem?_eq_some_iff.mp h).1), List.getElem?_map, h]; rfl
theorem ie_start {xc : Xc} {W : L2.WX} {K : PySem.W.Frag} {w : Wd} {s : Sto} {H : Hp} {N : List Str} {ds : List Dat} {vs : List V} (c : CI xc K w s H) (r : RpL K w.as (Fz w H) ds vs) (hl : ds.length ≤ N.length) :
    IE ⟨K, H, w.as, w.ow, xc, W⟩ w (ds.map Slt.fz ++ List.replicate (N.length - ds.length) Slt.un) s (L2.start N vs) H := by
  have look : ∀ {i : Nat} {z : Slt}, (ds.map Slt.fz ++ List.replicate (N.length - ds.length) Slt.un)[i]? = some z → z = .un ∨ ∃ d, z = .fz d ∧ ds[i]? = some d := fun {i z} h => by
    by_cases hi : i < ds.length
    · rw [List.getElem?_append_left (by rw [List.length_map]; exact hi), List.getElem?_map, List.getElem?_eq_getElem hi] at h
      cases h
      exact .inr ⟨_, rfl, List.getElem?_eq_getElem hi⟩
    · rw [List.getElem?_append_right (by rw [List.length_map]; omega), List.getElem?_replicate] at h
      split at h
      · cases h; exact .inl rfl
      · cases h
  refine ⟨?_, fun i d h => ?_, fun i es h => ?_, fun i j p es fs h => ?_, c.slen, c.cells, c.nd, c.dis, .refl _, fun _ h => h, c.there, fun _ _ h _ => h, fun a h h' => absurd h h'⟩
  · unfold L2.start
    rw [List.length_append, List.length_append, List.length_map, List.length_map, List.length_replicate, List.length_replicate, r.length]
  · rcases look h with z | ⟨d', z, h'⟩
    · cases z
    · cases z
      obtain ⟨v, h1, h2⟩ := r.get' h'
      exact ⟨v, start_get h1, h2⟩
  · rcases look h with z | ⟨d', z, _⟩ <;> cases z
  · rcases look h with z | ⟨d', z, _⟩ <;> cases z
theorem aft_end {K : PySem.W.Frag} {H : Hp} {w : Wd} {xc : Xc} {W : L2.WX} {e' : Lcs} {s' : Sto} {σ' : L2.St} {w' : Wd} {H' : Hp} (J : IE ⟨K, H, w.as, w.ow, xc, W⟩ w' e' s' σ' H') : Aft xc K w H ⟨w'.as, w.ow⟩ s' H' ∧ Same (Fz w' H') (Fz ⟨w'.as, w.ow⟩ H') := by
  have sm : Same (Fz w' H') (Fz ⟨w'.as, w.ow⟩ H') := fun a o h => by
    obtain ⟨z1, z2, z3⟩ := Fz_get h
    exact Fz_of z1 z2 fun z => z3 (J.o0 a z)
  have kp : ∀ a o, H a = some o → a ∉ w.as → H' a = some o := J.keep
  refine ⟨⟨rfl, J.beg, ⟨J.slen, fun n es h => ?_, J.nd, fun a ha z => J.dis a ha (J.o0 a z), fun a ha => J.there a (J.o0 a ha)⟩, fun a o h => ?_, kp, J.cfresh⟩, sm⟩
  · obtain ⟨a, us, z1, z2, z3⟩ := J.cells n es h
    exact ⟨a, us, z1, z2, CR.mono (.refl _) sm z3⟩
  · obtain ⟨z1, z2, z3⟩ := Fz_get h
    refine Fz_of (kp a o z1 z2) (fun z => ?_) z3
    have := J.cfresh a z z2
    have z1' : H a = some o := z1
    rw [show H a = none from this] at z1'
    cases z1'
theorem ExR.mono {K : PySem.W.Frag} {xc : Xc} {as : List Addr} {F F' : Hp} {x : Dat} {cls : Value} {d : Option Addr} (sm : Same F F') (h : ExR K xc as F x cls d) : ExR K xc as F' x cls d := by
  obtain ⟨nm, fds, C, fns, dd, vs, h1, h2, h3, h4, h5, h6, h7⟩ := h
  exact ⟨nm, fds, C, fns, dd, vs, h1, h2, h3, h4, sm _ _ h5, h6, RpL.mono (.refl _) sm _ _ h7⟩
theorem run_len {K : PySem.W.Frag} {xc : Xc} {n m : Nat} {F : FS} {vs : List V} {H : Hp} {Q : VK} {E : XK} (h : spX K xc (runF n m F) vs H Q E) : vs.length = n := by
  obtain ⟨w, ds, st0, c, r, h⟩ := h
  unfold runF at h
  split at h
  · rename_i hd
    rw [r.length]; exact hd
  · exact h.elim
theorem run_body {K : PySem.W.Frag} {xc : Xc} {N ps : List Str} {F : FS} {vs : List V} {H : Hp} {Q : VK} {E : XK} (hl : ps.length ≤ N.length) (h : spX K xc (runF ps.length N.length F) vs H Q E) :
    ∃ as0 O0, tS ⟨K, H, as0, O0, xc, fun cls d _ H' => E cls d H'⟩ F { nx := fun _ H' => Q V.non H', rt := Q } (L2.start N vs) H := by
  have hv := run_len h
  obtain ⟨w, ds, st0, c, r, h⟩ := h
  have hd : ds.length = ps.length := by rw [← r.length]; exact hv
  unfold runF at h
  rw [if_pos hd] at h
  have I := ie_start (xc := xc) (W := fun cls d _ H' => E cls d H') (N := N) c r (by rw [hd]; exact hl)
  rw [hd] at I
  refine ⟨w.as, w.ow, w, _, st0, I, ?_⟩
  cases q : F (ds.map Slt.fz ++ List.replicate (N.length - ps.length) Slt.un) st0 with
  | bad => rw [q] at h; exact h
  | nx e1 s1 =>
    rw [q] at h
    intro w1 σ1 H1 I1 x1
    obtain ⟨af, sm⟩ := aft_end I1
    exact h _ _ _ af rp_n
  | bk e1 s1 => rw [q] at h; exact h.elim
  | ct e1 s1 => rw [q] at h; exact h.elim
  | rt d s1 =>
    rw [q] at h
    intro w1 e1 σ1 v H1 I1 x1 r1
    obtain ⟨af, sm⟩ := aft_end I1
    exact h _ _ _ af (Rp.mono (.refl _) sm _ _ r1)
  | ex y e1 s1 =>
    rw [q] at h
    intro w1 σ1 H1 cls d I1 x1 r1
    obtain ⟨af, sm⟩ := aft_end I1
    exact h _ _ _ _ af (r1.mono sm)
@[simp] def runN (n m : Nat) (F : FS) : List Dat → Sto → Res Dat := fun ds s => (runF n m F ds s).noex
theorem runN_len {K : PySem.W.Frag} {xc : Xc} {n m : Nat} {F : FS} {vs : List V} {H : Hp} {Q : VK} {E : XK} (h : spX K xc (runN n m F) vs H Q E) : vs.length = n := by
  obtain ⟨w, ds, st0, c, r, h⟩ := h
  exact run_len (E := fun _ _ _ => True) ⟨w, ds, st0, c, r, holds_imp (holds_noex h fun _ _ => True) (fun _ _ z => z) fun _ _ _ _ _ _ _ _ _ => trivial⟩
theorem run_bodyN {K : PySem.W.Frag} {xc : Xc} {N ps : List Str} {F : FS} {vs : List V} {H : Hp} {Q : VK} {E : XK} (hl : ps.length ≤ N.length) (h : spX K xc (runN ps.length N.length F) vs H Q E) :
    ∃ as0 O0, tS ⟨K, H, as0, O0, xc, fun _ _ _ _ => False⟩ F { nx := fun _ H' => Q V.non H', rt := Q } (L2.start N vs) H := by
  obtain ⟨w, ds, st0, c, r, h⟩ := h
  exact run_body (E := fun _ _ _ => False) hl ⟨w, ds, st0, c, r, holds_imp (holds_noex h fun _ _ => False) (fun _ _ z => z) fun _ _ z => z.elim⟩
theorem def_ok {P : Program} {wd : World} {K : PySem.W.Frag} {mg : Str → Option Value} {base : Heap} {x qual : Str} {st : Stmt} {f : Addr} {fd : FuncData} {N ps : List Str} {k : Nat} {F : FS} {xc : Xc} (D : Fun K x qual st f fd) (S : FnScope N ps (defScope st)) (hl : ps.length ≤ N.length)
    (hbody : ∀ (cdv : Value) (A : Around) (outer : List Env) (s : Shared) (H : Hp) (E : XK) (H0 : Hp) (as0 : List Addr) (O0 : Addr → Prop), Room k (A.deeper (envOfC qual (defScope st) s.heap.objs.size f cdv)) → PSs (cxOf CX0 P wd K mg base N qual (defScope st) f cdv A outer s H E).nox (defBody st) (tS ⟨K, H0, as0, O0, xc, fun _ _ _ _ => False⟩ F)) :
    FnOk P wd K mg base CX0 (k + 1) f fd ps (spX K xc (runN ps.length N.length F)) := by
  refine D.ok S (fun vs H Q E h => runN_len h) fun cdv A outer s H vs Q E hr h => ?_
  obtain ⟨as0, O0, q⟩ := run_bodyN hl h
  exact ⟨_, hbody cdv A outer s H E H as0 O0 hr, q⟩
theorem def_okX {P : Program} {wd : World} {K : PySem.W.Frag} {mg : Str → Option Value} {base : Heap} {x qual : Str} {st : Stmt} {f : Addr} {fd : FuncData} {N ps : List Str} {k : Nat} {F : FS} {xc : Xc} (D : Fun K x qual st f fd) (S : FnScope N ps (defScope st)) (hl : ps.length ≤ N.length)
    (hbody : ∀ (cdv : Value) (A : Around) (outer : List Env) (s : Shared) (H : Hp) (E : XK) (H0 : Hp) (as0 : List Addr) (O0 : Addr → Prop), Room k (A.deeper (envOfC qual (defScope st) s.heap.objs.size f cdv)) → PSs (cxOf (L2.CX P wd) P wd K mg base N qual (defScope st) f cdv A outer s H E) (defBody st) (tS ⟨K, H0, as0, O0, xc, fun cls d _ H' => E cls d H'⟩ F)) :
    FnOk P wd K mg base (L2.CX P wd) (k + 1) f fd ps (spX K xc (runF ps.length N.length F)) := by
  refine D.okX S (fun vs H Q E h => run_len h) fun cdv A outer s H vs Q E hr h => ?_
  obtain ⟨as0, O0, q⟩ := run_body hl h
  exact ⟨_, hbody cdv A outer s H E H as0 O0 hr, q⟩
end
end DL
namespace DL
open PySem PySem.Spec PyProof.Rows L2
section
variable {X : Cx} {G : Gx}
section
variable {w : Wd} {e : Lcs} {s : Sto} {σ : L2.St} {H : Hp}
theorem Fz_cell {p : Addr} {o : HO} (hp : H p = none) : Fz ⟨w.as ++ [p], w.ow⟩ (upd H p o) = Fz w H := by
  funext a
  unfold Fz
  by_cases ha : a = p
  · subst ha
    rw [if_pos (.inl (by simp))]
    split
    · rfl
    · rw [hp]
  · by_cases h : a ∈ w.as ∨ w.ow a
    · rw [if_pos h, if_pos (h.elim (fun q => .inl (List.mem_append_left _ q)) .inr)]
    · rw [if_neg h, if_neg (by
        rintro (q | q)
        · rcases List.mem_append.mp q with q | q
          · exact h (.inl q)
          · exact ha (by simpa using q)
        · exact h (.inr q)), upd_ne ha]
theorem IE.newCell (I : IE G w e s σ H) {p : Addr} {vs : HO} {ds : Cel} (hp : H p = none) (r : CR G.xc G.K w.as (Fz w H) p ds vs) : IE G ⟨w.as ++ [p], w.ow⟩ e (s ++ [ds]) σ (upd H p vs) := by
  have ef : Fz ⟨w.as ++ [p], w.ow⟩ (upd H p vs) = Fz w H := Fz_cell hp
  have hb : Beg w.as (w.as ++ [p]) := ⟨[p], rfl⟩
  have hx : ∀ {a : Addr} {u : HO}, H a = some u → upd H p vs a = some u := fun {a u} h => by rw [upd_ne (ne_of_none h hp)]; exact h
  refine ⟨I.len, fun i d h => ?_, fun i ds h => ?_, I.inj, by simp [I.slen], fun n es h => ?_, ?_, fun a ha => ?_, I.beg.trans hb, I.o0, fun a h => ?_, fun a u h h' => hx (I.keep a u h h'), fun a ha h0 => ?_⟩
  · obtain ⟨v, h1, h2⟩ := I.slot i d h
    exact ⟨v, h1, by rw [ef]; exact Rp.mono hb (.refl _) _ _ h2⟩
  · obtain ⟨q, us, h1, h2, h3, h4, h5, h6⟩ := I.own i ds h
    exact ⟨q, us, h1, h2, h3, h4, hx h5, by rw [ef]; exact CR.mono hb (.refl _) h6⟩
  · by_cases hn : n < s.length
    · rw [List.getElem?_append_left hn] at h
      obtain ⟨a, us, h1, h2, h3⟩ := I.cells n es h
      exact ⟨a, us, hb.get h1, hx h2, by rw [ef]; exact CR.mono hb (.refl _) h3⟩
    · rw [List.getElem?_append_right (by omega)] at h
      have hn2 : n = s.length := by
        by_cases q : n - s.length = 0
        · omega
        · rw [List.getElem?_eq_none (by simp; omega)] at h; cases h
      subst hn2
      simp at h
      subst h
      exact ⟨p, vs, by rw [List.getElem?_append_right (by rw [I.slen]; exact Nat.le_refl _)]; simp [I.slen], upd_same, by rw [ef]; exact CR.mono hb (.refl _) r⟩
  · rw [List.nodup_append]
    refine ⟨I.nd, by simp, fun a ha b hb2 z => ?_⟩
    have : b = p := by simpa using hb2
    subst this; subst z
    exact I.freshA hp ha
  · rcases List.mem_append.mp ha with q | q
    · exact I.dis a q
    · have : a = p := by simpa using q
      subst this
      exact I.freshO hp
  · cases z : H a with
    | none => exact absurd z (I.there a h)
    | some u => rw [hx z]; simp
  · rcases List.mem_append.mp ha with q | q
    · exact I.cfresh a q h0
    · have : a = p := by simpa using q
      subst this
      exact I.fresh0 hp
theorem Fz_mem {p : Addr} {o : HO} (hp : p ∈ w.as) : Fz w (upd H p o) = Fz w H := by
  funext a
  unfold Fz
  by_cases h : a ∈ w.as ∨ w.ow a
  · rw [if_pos h, if_pos h]
  · rw [if_neg h, if_neg h]
    exact upd_ne fun z => by subst z; exact h (.inl hp)
theorem IE.writeCell (I : IE G w e s σ H) {n : Nat} {p : Addr} {vs : HO} {ds : Cel} (hn : w.as[n]? = some p) (r : CR G.xc G.K w.as (Fz w H) p ds vs) : IE G w e (s.set n ds) σ (upd H p vs) := by
  have hm : p ∈ w.as := List.mem_of_getElem? hn
  have ef : Fz w (upd H p vs) = Fz w H := Fz_mem hm
  have hns : n < s.length := by rw [← I.slen]; exact (List.getElem?_eq_some_iff.mp hn).1
  refine ⟨I.len, fun i d h => ?_, fun i ds h => ?_, I.inj, by rw [List.length_set]; exact I.slen, fun m es h => ?_, I.nd, I.dis, I.beg, I.o0, fun a h => ?_, fun a u h h' => ?_, I.cfresh⟩
  · obtain ⟨v, h1, h2⟩ := I.slot i d h
    exact ⟨v, h1, by rw [ef]; exact h2⟩
  · obtain ⟨q, us, h1, h2, h3, h4, h5, h6⟩ := I.own i ds h
    have : q ≠ p := fun z => by subst z; exact I.dis q hm h2
    exact ⟨q, us, h1, h2, h3, h4, by rw [upd_ne this]; exact h5, by rw [ef]; exact h6⟩
  · by_cases z : n = m
    · subst z
      rw [List.getElem?_set_self hns] at h; cases h
      exact ⟨p, vs, hn, upd_same, by rw [ef]; exact r⟩
    · rw [List.getElem?_set_ne z] at h
      obtain ⟨a, us, h1, h2, h3⟩ := I.cells m es h
      have : a ≠ p := fun y => by
        subst y
        exact z (nd_ix I.nd hn h1)
      exact ⟨a, us, h1, by rw [upd_ne this]; exact h2, by rw [ef]; exact h3⟩
  · by_cases z : a = p
    · subst z; rw [upd_same]; simp
    · rw [upd_ne z]; exact I.there a h
  · have : a ≠ p := fun z => by
      subst z
      have := I.cfresh a hm h'
      rw [h] at this; cases this
    rw [upd_ne this]
    exact I.keep a u h h'
end
@[simp] def sCell (i : Nat) (Fs : FA) : FS := fun e s => (Fs e s).flo e fun ds s1 => if i < e.length ∧ ds.length ≤ sizeLine then .nx (e.set i (.fz (cel s1.length))) (s1 ++ [.ls ds]) else .bad
theorem ds_setCell (i : Nat) {y : Str} {es : List Expr} {pos pos' pos2 : Pos} {Fs : FA} (hN : X.N.Nodup) (ha : PA X es (tA G Fs)) (hi : X.N[i]? = some y := by rfl) (hx : Loc X.env.scope y := by first | exact Or.inl rfl | exact Or.inr rfl) (hs : swapsWith (.List es pos2) (some (.Name y pos')) pos.line X.env = pure false := by rfl)
    (hf : X.fn y = true ∨ X.env.scope.names.lookup y = some .local := by first | exact .inl rfl | exact .inr rfl) : PS X (.Assign [.Name y pos'] (.List es pos2) pos) (tS G (sCell i Fs)) :=
  PS_imp (ps_set hN hi hx (pe_lst ha) hs hf) fun D σ H ⟨w, e, s, I, h⟩ => by
    refine ⟨w, e, s, I, holds_imp (flo_holds h) fun ds s1 h1 w1 vs H1 I1 x1 r1 => ?_⟩
    split at h1
    · rename_i c
      refine ⟨by rw [r1.length]; exact c.2, fun p hp => ?_⟩
      refine h1 ⟨w1.as ++ [p], w1.ow⟩ _ _ ((I1.newCell hp (cr_ls r1)).set c.1 ?_) (x1.f.trans ⟨⟨[p], rfl⟩, by rw [Fz_cell hp]; exact .refl _⟩)
      unfold cel
      simp only [Rp]
      refine ⟨p, rfl, ?_⟩
      rw [← I1.slen]
      simp
    · exact h1.elim
@[simp] def sItem (Fo Fi Fv : FE) : FS := fun e s => (Fv e s).flo e fun d s1 => (Fo e s1).flo e fun o s2 => (Fi e s2).flo e fun k s3 => match o, k with
  | .dict [(.int n, .none)], .int j => match s3[n.toNat]? with
    | some (.ls ds) => match ixN ds.length j with
      | some m => .nx e (s3.set n.toNat (.ls (ds.set m d)))
      | none => .bad
    | _ => .bad
  | _, _ => .bad
@[simp] def sOwn (i : Nat) (Fs : FA) : FS := fun e s => (Fs e s).flo e fun ds s1 => if i < e.length ∧ ds.length ≤ sizeLine then .nx (e.set i (.ow (.ls ds))) s1 else .bad
@[simp] def sAppend (i : Nat) (Fa : FE) : FS := fun e s => match e[i]? with
  | some (.ow (.ls ds)) => (Fa e s).flo e fun d s1 => if ds.length < sizeLine then .nx (e.set i (.ow (.ls (ds ++ [d])))) s1 else .bad
  | _ => .bad
theorem ds_append (i : Nat) {x : Str} {a : Expr} {px apos cpos pos : Pos} {Fa : FE} (ha : PE X a (tE G Fa)) (hi : X.N[i]? = some x := by rfl) (hx : Vis X.env.scope x := by first | exact Or.inl rfl | exact Or.inr (Or.inl rfl) | exact Or.inr (Or.inr rfl)) (hd : (x == ("__debug__" : Str)) = false := by decide) (hcd : (x == ("__classdict__" : Str)) = false := by decide)
    (hsw : swapsWith (.Call (.Attribute (.Name x px) "append" apos) [a] [] cpos) none pos.line X.env = pure false := by rfl)
    (hbase : attributeBase (.Name x px) "append" X.env (eval (.Name x px) X.env) = eval (.Name x px) X.env := by rfl)
    (hfew : ((backTo cpos (starEach [a] X.env)).all (fun x => !x.1) && (backToKw cpos (keywordEach [] X.env)).all (fun x => x.1.isSome)
      && decide (([a] : List Expr).length + ([] : List Keyword).length + (if ([] : List Keyword).isEmpty then 0 else 1) < 30)) = true := by rfl)
    (hline : (apos.endLine == cpos.line) = true := by rfl) (hs1 : starEach [a] X.env = (false, eval a X.env) :: starEach [] X.env := by rfl) (hplain : (backTo cpos (starEach [] X.env)).any (·.1) = false := by rfl) :
    PS X (.Expr (.Call (.Attribute (.Name x px) "append" apos) [a] [] cpos) pos) (tS G (sAppend i Fa)) :=
  PS_imp (ps_expr (pe_bm PySem.F.plainAttrs_list PySem.F.slot_list_append PySem.F.type_list_append mt_append (pe_var (i := i) hi hx hd hcd) (pa_cons ha pa_nil hs1) hbase hfew hline hs1 hplain) hsw) fun D σ H ⟨w, e, s, I, h⟩ => by
    unfold sAppend at h
    -- the list stands ahead of the argument
    split at h
    · rename_i ds hds
      obtain ⟨p, vs, g1, g2, g3, g4, g5, g6⟩ := I.ownL hds
      refine ⟨.ref p, g1, Or.inl ⟨rfl, _, Or.inl (Or.inl g5)⟩, w, e, s, I, holds_imp (flo_holds h) fun d s1 h1 w1 v H1 I1 x1 r1 => ?_⟩
      split at h1
      · rename_i c
        obtain ⟨p', vs', k1, k2, k3, k4, k5, k6⟩ := I1.ownL hds
        rw [g1] at k1; cases k1
        refine ⟨p, vs', v, rfl, rfl, k5, by rw [k6.length]; exact c, ?_⟩
        refine h1 w1 σ _ (I1.writeOwn hds g1 (cr_ls (k6.append (RpL.one r1)))) (x1.f.trans (write_f k2))
      · exact h1.elim
    · exact h.elim
end
end DL
namespace DL
open PySem PySem.Spec PyProof.Rows L2
section
variable {X : Cx} {G : Gx}
theorem room65 {k : Nat} {A : Around} (hr : Room k A) : A.units + 65 < cLine := by have := hr.un; omega
def rInT (K : PySem.W.Frag) : R2 := fun x y H Q => ∃ d ds, Dp K H x d ∧ Dp K H y (.tuple ds) ∧ SeqAt.shaped d = true ∧ SeqAt.shaped (.tuple ds) = true ∧ Q (.bl (ds.any fun z => PyData.eqv z d)) H
def rNotInT (K : PySem.W.Frag) : R2 := fun x y H Q => ∃ d ds, Dp K H x d ∧ Dp K H y (.tuple ds) ∧ SeqAt.shaped d = true ∧ SeqAt.shaped (.tuple ds) = true ∧ Q (.bl (!ds.any fun z => PyData.eqv z d)) H
theorem op_inT (hu : X.A.units + 65 < cLine) : OpR X (compareOp .In) (rInT X.K) := fun pins s σ H x y v u Q I rx ry ⟨d, ds, hd, he, sd, se, q⟩ => by
  obtain ⟨bs, k1⟩ := Dp.reads I d x v hd rx
  obtain ⟨as, k2⟩ := Dp.reads I (.tuple ds) y u he ry
  exact SeqAt.in_tuple_reads k2 k1 (SeqAt.canLay_of_shaped (d := .tuple ds) se) (SeqAt.canLay_of_shaped sd) (room_in_shaped sd hu) ⟨.bl _, H, I, rfl, q⟩
theorem op_notInT (hu : X.A.units + 65 < cLine) : OpR X (compareOp .NotIn) (rNotInT X.K) := fun pins s σ H x y v u Q I rx ry ⟨d, ds, hd, he, sd, se, q⟩ => by
  obtain ⟨bs, k1⟩ := Dp.reads I d x v hd rx
  obtain ⟨as, k2⟩ := Dp.reads I (.tuple ds) y u he ry
  exact SeqAt.notIn_tuple_reads k2 k1 (SeqAt.canLay_of_shaped (d := .tuple ds) se) (SeqAt.canLay_of_shaped sd) (room_in_shaped sd hu) ⟨.bl _, H, I, rfl, q⟩
def inStr (i j : Str) : Bool := !(Builtin.Str.occurrences j i 0 j.length 1).isEmpty
def isIn (a b : Dat) : Option Bool := match b with
  | .list ds => if SeqAt.shaped a && SeqAt.shaped (.list ds) then some (ds.any fun z => PyData.eqv z a) else none
  | .tuple ds => if SeqAt.shaped a && SeqAt.shaped (.tuple ds) then some (ds.any fun z => PyData.eqv z a) else none
  | .str j => match a with
    | .str i => some (inStr i j)
    | _ => none
  | _ => none
@[simp] def gIn : Dat → Dat → Sto → Res Dat := fun a b s => match isIn a b with
  | some k => .ok (.bool k) s
  | none => .bad
@[simp] def gNotIn : Dat → Dat → Sto → Res Dat := fun a b s => match isIn a b with
  | some k => .ok (.bool (!k)) s
  | none => .bad
def rIn3 (K : PySem.W.Frag) : R2 := fun x y H Q => rInD K x y H Q ∨ rInT K x y H Q ∨ ∃ i j, x = .str i ∧ y = .str j ∧ Q (.bl (!(Builtin.Str.occurrences j i 0 j.length 1).isEmpty)) H
def rNotIn3 (K : PySem.W.Frag) : R2 := fun x y H Q => rNotInD K x y H Q ∨ rNotInT K x y H Q ∨ ∃ i j, x = .str i ∧ y = .str j ∧ Q (.bl (!(!(Builtin.Str.occurrences j i 0 j.length 1).isEmpty))) H
theorem dp_full {w : Wd} {H : Hp} {K : PySem.W.Frag} {d : Dat} {v : V} (c : SeqAt.shaped d = true) (r : Rp K w.as (Fz w H) d v) : Dp K H v d := Dp_mono Fz_sub _ _ (dp_of d v (SeqAt.canLay_of_shaped c) r)
theorem opIn : OpD G (rIn3 G.K) gIn := by
  intro w e s σ H x y a b Q I ra rb h
  unfold gIn at h
  split at h
  · rename_i k hk
    have fin := flat_ok I h (rp_b (i := k))
    unfold isIn at hk
    split at hk
    · split at hk
      · rename_i c
        cases hk
        rw [Bool.and_eq_true] at c
        exact .inl ⟨_, _, dp_full c.1 ra, dp_full c.2 rb, c.1, c.2, fin⟩
      · cases hk
    · split at hk
      · rename_i c
        cases hk
        rw [Bool.and_eq_true] at c
        exact .inr (.inl ⟨_, _, dp_full c.1 ra, dp_full c.2 rb, c.1, c.2, fin⟩)
      · cases hk
    · split at hk
      · cases hk
        exact .inr (.inr ⟨_, _, rp_str ra, rp_str rb, fin⟩)
      · cases hk
    · cases hk
  · exact h.elim
theorem opNotIn : OpD G (rNotIn3 G.K) gNotIn := by
  intro w e s σ H x y a b Q I ra rb h
  unfold gNotIn at h
  split at h
  · rename_i k hk
    have fin := flat_ok I h (rp_b (i := !k))
    unfold isIn at hk
    split at hk
    · split at hk
      · rename_i c
        cases hk
        rw [Bool.and_eq_true] at c
        exact .inl ⟨_, _, dp_full c.1 ra, dp_full c.2 rb, c.1, c.2, fin⟩
      · cases hk
    · split at hk
      · rename_i c
        cases hk
        rw [Bool.and_eq_true] at c
        exact .inr (.inl ⟨_, _, dp_full c.1 ra, dp_full c.2 rb, c.1, c.2, fin⟩)
      · cases hk
    · split at hk
      · cases hk
        exact .inr (.inr ⟨_, _, rp_str ra, rp_str rb, fin⟩)
      · cases hk
    · cases hk
  · exact h.elim
@[simp] def isNone : Dat → Option Bool
  | .none => some true
  | .bool _ => some false
  | .int _ => some false
  | .str _ => some false
  | .list _ => some false
  | .tuple _ => some false
  | .dict _ => none
@[simp] def gIs : Dat → Dat → Sto → Res Dat := fun a b s => match b with
  | .none => match isNone a with
    | some k => .ok (.bool k) s
    | none => .bad
  | _ => .bad
@[simp] def gIsNot : Dat → Dat → Sto → Res Dat := fun a b s => match b with
  | .none => match isNone a with
    | some k => .ok (.bool (!k)) s
    | none => .bad
  | _ => .bad
@[simp] def tyName : Dat → Option String
  | .none => some "NoneType"
  | .bool _ => some "bool"
  | .int _ => some "int"
  | .str _ => some "str"
  | .list _ => some "list"
  | .tuple _ => some "tuple"
  | .dict _ => none
@[simp] def isiTab (T n : String) : Bool := n == T || (T == "int" && n == "bool")
@[simp] def gIsi (T : String) : Dat → Sto → Res Dat := fun d s => match tyName d with
  | some n => .ok (.bool (isiTab T n)) s
  | none => .bad
theorem tyName_is {K : PySem.W.Frag} {w : Wd} {H : Hp} {d : Dat} {v : V} {n : String} (h : tyName d = some n) (r : Rp K w.as (Fz w H) d v) : TyX K H v (.type n) ∧ n ∈ ["NoneType", "bool", "int", "str", "list", "tuple"] := by
  cases d with
  | none => cases h; rw [rp_none r]; exact ⟨.base .non, by simp⟩
  | bool b => cases h; rw [rp_bool r]; exact ⟨.base (.bl b), by simp⟩
  | int b => cases h; rw [rp_int r]; exact ⟨.base (.int b), by simp⟩
  | str b => cases h; rw [rp_str r]; exact ⟨.base (.str b), by simp⟩
  | list ds =>
    cases h
    obtain ⟨a, xs, rfl, q, _⟩ := rp_list r
    exact ⟨.base (.lst (Fz_sub _ _ q)), by simp⟩
  | tuple ds =>
    cases h
    obtain ⟨a, xs, rfl, q, _⟩ := rp_tuple r
    refine ⟨?_, by simp⟩
    rcases sqT_mono Fz_sub q with (q | ⟨o, q⟩) | ⟨o, its, n, hk, hc, _⟩
    · exact .base (.tup q)
    · exact .fTuple q
    · exact .kTuple hk hc
  | dict _ => cases h
theorem de_isi (T : String) {p p2 pos : Pos} {a : Expr} {Fa : FE} {x : Str} (hK : X.K = G.K) (hm : X.mg "isinstance" = none) (hm2 : X.mg x = none) (ht : ∀ n ∈ ["NoneType", "bool", "int", "str", "list", "tuple"], kitB n T = some (isiTab T n)) (ha : PE X a (tE G Fa)) (hg : Gl X "isinstance" := by rfl) (hg2 : Gl X x := by rfl)
    (hv : bootBuiltins x = some (.type T) := by decide +kernel) (hv2 : bootBuiltins "isinstance" = some (.builtin "isinstance") := by decide +kernel) (hn : x ≠ "__name__" := by decide) (hdb : (x == ("__debug__" : Str)) = false := by decide)
    (he : starEach [a, .Name x p2] X.env = (false, eval a X.env) :: starEach [.Name x p2] X.env := by rfl) (he2 : starEach [.Name x p2] X.env = (false, eval (.Name x p2) X.env) :: starEach [] X.env := by rfl) (hpl : (backTo pos (starEach [.Name x p2] X.env)).any (·.1) = false := by rfl) :
    PE X (.Call (.Name "isinstance" p) [a, .Name x p2] [] pos) (tE G (fUn (gIsi T) Fa)) :=
  PE_imp (pe_callB call_isi hg hm hv2 (pa_cons ha (pa_cons (pe_bltn (v := .ty T) hg2 hm2 hv rfl hn hdb) pa_nil he2) he) (by decide) (by decide) he hpl) fun σ H Q ⟨w, e, s, I, h⟩ => by
    refine ⟨w, e, s, I, holds_imp (holds_bind h) fun d s1 h1 w1 v H1 I1 x1 r1 => ?_⟩
    unfold gIsi at h1
    split at h1
    · rename_i n hn'
      obtain ⟨t1, t2⟩ := tyName_is hn' r1
      rw [hK]
      exact ⟨v, .ty T, .type n, .type T, _, rfl, .ty T, t1, kit_ty (ht n t2), h1 w1 _ H1 I1 x1 rp_b⟩
    · exact h1.elim
end
end DL
namespace DL
open PySem PySem.Spec PyProof.Rows L2
section
variable {X : Cx} {G : Gx}
def kN (G : Gx) (w : Wd) (e : Lcs) (σ : L2.St) (H : Hp) (Q : VK) : List Dat → Sto → Prop := fun ds s' => ∀ w' p vs H', IE G w' e s' σ H' → FExt w H w' H' → w'.ow p → G.H0 p = none → ¬ G.O0 p → Lone e σ p → H' p = some (.lst vs) → RpL G.K w'.as (Fz w' H') ds vs → Q (.ref p) H'
def tN (G : Gx) (F : FA) : TE := fun σ H Q => ∃ w e s, IE G w e s σ H ∧ (F e s).holds (kN G w e σ H Q) (kX G w e σ H)
theorem kN_ext {w w1 : Wd} {e : Lcs} {σ : L2.St} {H H1 : Hp} {Q : VK} {d : List Dat} {s : Sto} (x : FExt w H w1 H1) (h : kN G w e σ H Q d s) : kN G w1 e σ H1 Q d s :=
  fun w' p vs H' I x' => h w' p vs H' I (x.trans x')
theorem new_own {w : Wd} {e : Lcs} {s : Sto} {σ : L2.St} {H : Hp} {Q : VK} {ds : List Dat} {vs : List V} {p : Addr} (I : IE G w e s σ H) (r : RpL G.K w.as (Fz w H) ds vs) (h : kN G w e σ H Q ds s) (hp : H p = none) : Q (.ref p) (upd H p (.lst vs)) :=
  h (w.plus p) p vs _ (I.plus hp) (plus_f hp) (.inr rfl) (I.fresh0 hp) (I.freshO0 hp) (I.lone hp) upd_same (by rw [Fz_plus hp]; exact r)
@[simp] def nLstOf (Fs : FA) : FA := fun e s => (Fs e s).bind fun ds s1 => match ds with
  | [.list xs] => .ok xs s1
  | [.tuple xs] => .ok xs s1
  | _ => .bad
@[simp] def nCat (Fa Fb : FE) : FA := fun e s => (Fa e s).bind fun x s1 => (Fb e s1).bind fun y s2 => match x, y with
  | .list xs, .list ys => if xs.length + ys.length ≤ sizeLine then .ok (xs ++ ys) s2 else .bad
  | _, _ => .bad
theorem dn_cat {a b : Expr} {pos : Pos} {Fa Fb : FE} (ha : PE X a (tE G Fa)) (hb : PE X b (tE G Fb)) : PE X (.BinOp a .Add b pos) (tN G (nCat Fa Fb)) := PE_imp (pe_op op_cat ha hb) fun σ H Q ⟨w, e, s, I, h⟩ => by
  refine ⟨w, e, s, I, holds_imp (holds_bind h) fun x s1 h1 w1 xv H1 I1 x1 r1 => ?_⟩
  refine ⟨w1, e, s1, I1, holds_imp (holds_bind h1) fun y s2 h2 w2 yv H2 I2 x2 r2 => ?_⟩
  split at h2
  · split at h2
    · rename_i c
      obtain ⟨p, us, rfl, hp, rx⟩ := rp_list (x2.rp r1)
      obtain ⟨q, zs, rfl, hq, ry⟩ := rp_list r2
      exact ⟨p, q, us, zs, rfl, rfl, Fz_sub _ _ hp, Fz_sub _ _ hq, by rw [rx.length, ry.length]; exact c, fun l hl => new_own I2 (rx.append ry) (kN_ext (x1.trans x2).f h2) hl⟩
    · exact h2.elim
  · exact h2.elim
@[simp] def fLcN (Fi : FA) (F : FG) (C : FT) (Fe : FE) (vs : List Nat) : FA := fun e s => (Fi e s).bind fun ds s1 => if decide (ds.length < sizeLine) then lcL F C Fe (wipeE e vs) ds s1 else .bad
@[simp] def sOwnN (i : Nat) (F : FA) : FS := fun e s => (F e s).flo e fun ds s1 => if i < e.length then .nx (e.set i (.ow (.ls ds))) s1 else .bad
theorem own_of {F : FA} {i : Nat} {D : Ends} {σ : L2.St} {H : Hp} (h : tS G (sOwnN i F) D σ H) : tN G F σ H fun x H1 => gName i x σ H1 D.nx := by
  obtain ⟨w, e, s, I, h⟩ := h
  refine ⟨w, e, s, I, holds_imp (flo_holds h) fun ds s1 h1 w1 p vs H1 I1 x1 k1 k2 k3 k4 k5 k6 => ?_⟩
  split at h1
  · rename_i c
    exact h1 w1 _ H1 (I1.setOwn c k1 k2 k3 k4 k5 (cr_ls k6)) x1
  · exact h1.elim
theorem ds_own (i : Nat) {y : Str} {x : Expr} {pos pos' : Pos} {F : FA} (hN : X.N.Nodup) (ha : PE X x (tN G F)) (hi : X.N[i]? = some y := by rfl) (hx : Loc X.env.scope y := by first | exact Or.inl rfl | exact Or.inr rfl) (hs : swapsWith x (some (.Name y pos')) pos.line X.env = pure false := by rfl)
    (hf : X.fn y = true ∨ X.env.scope.names.lookup y = some .local := by first | exact .inl rfl | exact .inr rfl) : PS X (.Assign [.Name y pos'] x pos) (tS G (sOwnN i F)) :=
  PS_imp (ps_set hN hi hx ha hs hf) fun D σ H h => own_of h
@[simp] def fIxOwn (i : Nat) (Fb : FE) : FE := fun e s => match e[i]? with
  | some (.ow (.ls ds)) => (Fb e s).bind fun k s1 => match k with
    | .int j => match atI ds j with
      | some d => .ok d s1
      | none => .bad
    | _ => .bad
  | some (.fz d) => (Fb e s).bind fun k s1 => gIx d k s1
  | _ => .bad
@[simp] def fLenOwn (i : Nat) : FE := fun e s => match e[i]? with
  | some (.ow (.ls ds)) => .ok (.int ds.length) s
  | some (.fz d) => gLen [d] s
  | _ => .bad
theorem de_lenOwn (i : Nat) {x : Str} {pos p px : Pos} (hK : X.K = G.K) (hm : X.mg "len" = none) (hN : X.N[i]? = some x := by rfl) (hv : Vis X.env.scope x := by first | exact Or.inl rfl | exact Or.inr (Or.inl rfl) | exact Or.inr (Or.inr rfl)) (hd : (x == ("__debug__" : Str)) = false := by decide)
    (hcd : (x == ("__classdict__" : Str)) = false := by decide) (hgl : Gl X "len" := by rfl) (he : starEach [.Name x px] X.env = (false, eval (.Name x px) X.env) :: starEach [] X.env := by rfl) (hpl : (backTo pos (starEach [] X.env)).any (·.1) = false := by rfl) :
    PE X (.Call (.Name "len" p) [.Name x px] [] pos) (tE G (fLenOwn i)) := PE_imp (pe_callB call_len hgl hm (by decide +kernel) (pa_cons (pe_var (i := i) hN hv hd hcd) pa_nil he) (by decide) (by decide) he hpl) fun σ H Q ⟨w, e, s, I, h⟩ => by
  unfold fLenOwn at h
  split at h
  · rename_i ds hds
    obtain ⟨p, vs, g1, g2, g3, g4, g5, g6⟩ := I.ownL hds
    refine ⟨.ref p, g1, .ref p, vs.length, rfl, .inl ⟨vs, .inl (.inl g5), rfl⟩, ?_⟩
    rw [g6.length]
    exact flat_ok I h rp_i
  · rename_i d hd'
    obtain ⟨v, g1, g2⟩ := I.slot i d hd'
    rw [hK]
    exact ⟨v, g1, cdLen w e s σ H [v] [d] Q I (RpL.one g2) h⟩
  · exact h.elim
@[simp] def sItemOwn (i : Nat) (Fk Fv : FE) : FS := fun e s => (Fv e s).flo e fun d s1 => match e[i]? with
  | some (.ow (.ls ds)) => (Fk e s1).flo e fun k s2 => match k with
    | .int j => match ixN ds.length j with
      | some m => .nx (e.set i (.ow (.ls (ds.set m d)))) s2
      | none => .bad
    | _ => .bad
  | _ => .bad
end
end DL
namespace DL
open PySem PySem.Spec PyProof.Rows L2
section
variable {X : Cx} {G : Gx}
theorem RpL.reverse {K : PySem.W.Frag} {as : List Addr} {F : Hp} : ∀ {ds : List Dat} {vs : List V}, RpL K as F ds vs → RpL K as F ds.reverse vs.reverse
  | [], [], _ => by simpa using RpL.nil
  | d :: ds, v :: vs, h => by
    simp only [RpL] at h
    rw [List.reverse_cons, List.reverse_cons]
    exact (RpL.reverse h.2).append (RpL.one h.1)
  | [], _ :: _, h => by simp [RpL] at h
  | _ :: _, [], h => by simp [RpL] at h
@[simp] def gRev : Dat → Sto → Res Dat := fun d s => match d with
  | .list ds => .ok (.list ds.reverse) s
  | _ => .bad
def CmpP (X : Cx) (G : Gx) (op : CmpOp) (g : Dat → Dat → Sto → Res Dat) : Prop := ∃ r, OpR X (compareOp op) r ∧ OpD G r g
theorem cp_le : CmpP X G .LtE (gIB fun i j => decide (i ≤ j)) := ⟨_, op_le, opIB⟩
@[simp] def fChain (g g' : Dat → Dat → Sto → Res Dat) (Fa Fb Fc : FE) : FE := fun e s => (Fa e s).bind fun a s1 => (Fb e s1).bind fun b s2 => (g a b s2).bind fun k s3 => match k with
  | .bool true => (Fc e s3).bind fun c s4 => g' b c s4
  | .bool false => .ok (.bool false) s3
  | _ => .bad
theorem chain_of {r r' : R2} {g g' : Dat → Dat → Sto → Res Dat} {Fa Fb Fc : FE} (hg : OpD G r g) (hg' : OpD G r' g') {σ : L2.St} {H : Hp} {Q : VK} (h : tE G (fChain g g' Fa Fb Fc) σ H Q) : tChain r r' (tE G Fa) (tE G Fb) (tE G Fc) σ H Q := by
  obtain ⟨w, e, s, I, h⟩ := h
  refine ⟨w, e, s, I, holds_imp (holds_bind h) fun a s1 h1 w1 x H1 I1 x1 r1 => ?_⟩
  refine ⟨w1, e, s1, I1, holds_imp (holds_bind h1) fun b s2 h2 w2 y H2 I2 x2 r2 => ?_⟩
  refine hg w2 e s2 σ H2 x y a b _ I2 (x2.rp r1) r2 (holds_imp (holds_bind h2) fun d s3 h3 w3 z H3 I3 x3 r3 => ?_)
  split at h3
  · refine ⟨true, rp_bool r3, ?_⟩
    rw [if_pos rfl]
    refine ⟨w3, e, s3, I3, holds_imp (holds_bind h3) fun c s4 h4 w4 z4 H4 I4 x4 r4 => ?_⟩
    exact hg' w4 e s4 σ H4 y z4 b c Q I4 ((x3.trans x4).rp r2) r4 (holds_imp h4 fun d s5 h5 => kE_ext (x1.trans (x2.trans (x3.trans x4))) h5)
  · refine ⟨false, rp_bool r3, ?_⟩
    rw [if_neg (by decide)]
    exact h3 w3 _ H3 I3 (x1.trans (x2.trans x3)) rp_b
  · exact h3.elim
theorem de_chain {a b c : Expr} {pos : Pos} {op op' : CmpOp} {g g' : Dat → Dat → Sto → Res Dat} {Fa Fb Fc : FE} (h1 : CmpP X G op g) (h2 : CmpP X G op' g') (ha : PE X a (tE G Fa)) (hb : PE X b (tE G Fb)) (hc : PE X c (tE G Fc)) (hm : lastMarks [op, op'] [b, c] = false := by with_unfolding_all rfl) :
    PE X (.Compare a [op, op'] [b, c] pos) (tE G (fChain g g' Fa Fb Fc)) := by
  obtain ⟨r, h1, h1'⟩ := h1
  obtain ⟨r', h2, h2'⟩ := h2
  exact PE_imp (pe_chain h1 h2 ha hb hc hm) fun _ _ _ h => chain_of h1' h2' h
theorem dt_chain {a b c : Expr} {pos : Pos} {op op' : CmpOp} {g g' : Dat → Dat → Sto → Res Dat} {Fa Fb Fc : FE} (h1 : CmpP X G op g) (h2 : CmpP X G op' g') (ha : PE X a (tE G Fa)) (hb : PE X b (tE G Fb)) (hc : PE X c (tE G Fc)) (hm : lastMarks [op, op'] [b, c] = false := by with_unfolding_all rfl) :
    PT X (.Compare a [op, op'] [b, c] pos) (tT G (fB (fChain g g' Fa Fb Fc))) := by
  obtain ⟨r, h1, h1'⟩ := h1
  obtain ⟨r', h2, h2'⟩ := h2
  refine PT_imp (pt_chain h1 h2 ha hb hc hm) fun σ H Q h => ?_
  obtain ⟨w, e, s, I, h⟩ := h
  show tChain r r' (tE G Fa) (tE G Fb) (tE G Fc) σ H fun x H' => ∃ k, x = .bl k ∧ Q k H'
  refine chain_of h1' h2' ⟨w, e, s, I, holds_imp (holds_bind h) fun d s1 h1 w1 x H1 I1 x1 r1 => ?_⟩
  split at h1
  · rename_i b
    exact ⟨b, rp_bool r1, h1 w1 H1 I1 x1⟩
  · exact h1.elim
def Wr (K : PySem.W.Frag) (d : Dat) (u : Value) : Prop := ∃ v, RelV v u ∧ ∀ F as, Rp K as F d v
def WrL (K : PySem.W.Frag) (ds : List Dat) (us : List Value) : Prop := ∃ vs, Vals vs us ∧ ∀ F as, RpL K as F ds vs
def Top (K : PySem.W.Frag) (mg : Str → Option Value) (x : Str) (d : Dat) : Prop := ∃ u, mg x = some u ∧ Wr K d u
theorem wr_int {K : PySem.W.Frag} {i : Int} {t} : Wr K (.int i) (.int i t) := ⟨.int i, ⟨t, rfl⟩, fun _ _ => rp_i⟩
theorem wr_str {K : PySem.W.Frag} {i : Str} {t} : Wr K (.str i) (.str i t) := ⟨.str i, ⟨t, rfl⟩, fun _ _ => rp_s⟩
theorem wr_nil {K : PySem.W.Frag} : WrL K [] [] := ⟨[], .nil, fun _ _ => RpL.nil⟩
theorem wr_cons {K : PySem.W.Frag} {d : Dat} {u : Value} {ds : List Dat} {us : List Value} (h : Wr K d u) (h2 : WrL K ds us) : WrL K (d :: ds) (u :: us) := by
  obtain ⟨v, r, p⟩ := h
  obtain ⟨vs, rs, ps⟩ := h2
  exact ⟨v :: vs, .cons r rs, fun F as => RpL.cons (p F as) (ps F as)⟩
theorem wr_tup {K : PySem.W.Frag} {ds : List Dat} {a : Addr} {od : Option Addr} {us : List Value} {n : Nat} {sl : Array (Option Value)} (l : K.lookup a = some ⟨.type "tuple", od, .seq us.toArray n, sl⟩) (h : WrL K ds us) (hz : us.length ≤ sizeLine := by simp [sizeLine_eq]) : Wr K (.tuple ds) (.ref a) := by
  obtain ⟨vs, rs, ps⟩ := h
  refine ⟨.ref a, rfl, fun F as => ?_⟩
  simp only [Rp]
  exact ⟨a, vs, rfl, .inr ⟨_, _, _, l, rfl, rfl, by simpa using hz, by simpa using rs⟩, ps F as⟩
theorem de_top {x : Str} {d : Dat} {pos : Pos} (t : Top G.K X.mg x d) (hg : Gl X x := by rfl) (hd : (x == ("__debug__" : Str)) = false := by decide) : PE X (.Name x pos) (tE G (fC d)) := by
  obtain ⟨u, hm, v, r, p⟩ := t
  exact de_glob hm r p hg hd
end
end DL
namespace DL
open PySem PySem.Spec PyProof.Rows L2
section
variable {X : Cx} {G : Gx}
@[simp] def sExtend (i : Nat) (F : FA) : FS := fun e s => match e[i]? with
  | some (.ow (.ls ds)) => (F e s).flo e fun ys s1 => if ds.length + ys.length ≤ sizeLine then .nx (e.set i (.ow (.ls (ds ++ ys)))) s1 else .bad
  | _ => .bad
@[simp] def sParOwn (i j : Nat) (Fs : FA) (Fb : FE) : FS := fun e s => (Fs e s).flo e fun ds s1 => if ds.length ≤ sizeLine then (Fb e s1).flo e fun d s2 => if i < e.length ∧ j < e.length then .nx ((e.set i (.ow (.ls ds))).set j (.fz d)) s2 else .bad else .bad
theorem ds_parOwn (i j : Nat) {x y : Str} {es : List Expr} {b : Expr} {Fs : FA} {Fb : FE} {px py pt pos pos2 : Pos} {kt k2 pt2} (hc : X.calm = true) (hN : X.N.Nodup) (ha : PA X es (tA G Fs)) (hb : PE X b (tE G Fb)) (hi : X.N[i]? = some x := by rfl) (hj : X.N[j]? = some y := by rfl) (hij : i ≠ j := by decide)
    (hx : X.env.scope.names.lookup x = some .local := by rfl) (hy : X.env.scope.names.lookup y = some .local := by rfl)
    (hw : swappedStores [.Tuple [.Name x px, .Name y py] kt pt] (.Tuple [.List es pos2, b] k2 pt2) X.env = pure (some [x, y]) := by rfl)
    (hs : swapsWithSole [.Tuple [.Name x px, .Name y py] kt pt] (.Tuple [.List es pos2, b] k2 pt2) pos.line X.env = pure false := by rfl)
    (hs1 : starEach [.List es pos2, b] X.env = (false, eval (.List es pos2) X.env) :: starEach [b] X.env := by rfl) (hs2 : starEach [b] X.env = (false, eval b X.env) :: starEach [] X.env := by rfl) :
    PS X (.Assign [.Tuple [.Name x px, .Name y py] kt pt] (.Tuple [.List es pos2, b] k2 pt2) pos) (tS G (sParOwn i j Fs Fb)) := PS_imp (ps_par hc hN hi hj hij hx hy (pa_cons (pe_lst ha) (pa_cons hb pa_nil hs2) hs1) hw hs) fun D σ H ⟨w, e, s, I, h⟩ => by
  refine ⟨w, e, s, I, holds_imp (flo_holds h) fun ds s1 h1 w1 vs H1 I1 x1 r1 => ?_⟩
  split at h1
  · rename_i hlen
    refine ⟨by rw [r1.length]; exact hlen, fun p hp => ?_⟩
    refine ⟨w1.plus p, e, s1, I1.plus hp, holds_imp (flo_holdsF h1) (fun d s2 h2 w2 v H2 I2 x2 r2 => ?_) fun y s2 h2 w2 H2 cls dd I2 x2 rr => ?_⟩
    · split at h2
      · rename_i c
        refine ⟨_, _, rfl, ?_⟩
        have ow : w2.ow p := by rw [x2.ow]; exact .inr rfl
        have hH : H2 p = some (.lst vs) := (x2.own p (.inr rfl)).trans upd_same
        have rr : RpL G.K w2.as (Fz w2 H2) ds vs := x2.rpl (by rw [Fz_plus hp]; exact r1)
        exact h2 w2 _ H2 ((I2.setOwn c.1 ow (I1.fresh0 hp) (I1.freshO0 hp) (I1.lone hp) hH (cr_ls rr)).set (by rw [List.length_set]; exact c.2) r2) (x1.f.trans ((plus_f hp).trans x2.f))
      · exact h2.elim
    · exact h2 w2 σ H2 cls dd I2 (x1.f.trans ((plus_f hp).trans x2.f)) rr
  · exact h1.elim
end
end DL
namespace DL
open PySem PySem.Spec PyProof.Rows L2
section
variable {X : Cx} {G : Gx}
def keyOf : Dat → Option Key
  | .int i => some (.inl i)
  | .str z => some (.inr z)
  | _ => none
theorem key_rp {K : PySem.W.Frag} {as : List Addr} {F : Hp} {d : Dat} {v : V} {k : Key} (r : Rp K as F d v) (h : keyOf d = some k) : v = kV k := by
  cases d with
  | int i => simp only [keyOf, Option.some.injEq] at h; subst h; exact rp_int r
  | str z => simp only [keyOf, Option.some.injEq] at h; subst h; exact rp_str r
  | _ => simp [keyOf] at h
def getK {κ : Type} [DecidableEq κ] (kvs : List (κ × Dat)) (k : κ) : Option Dat := (kvs.find? fun kv => decide (kv.1 = k)).map (·.2)
def putD {κ : Type} [DecidableEq κ] (kvs : List (κ × Dat)) (k : κ) (d : Dat) : List (κ × Dat) := if (kvs.any fun kv => decide (kv.1 = k)) = true then kvs.map fun kv => if kv.1 = k then (kv.1, d) else kv else kvs ++ [(k, d)]
abbrev zipK {κ : Type} (kvs : List (κ × Dat)) (vs : List V) : List (κ × V) := (kvs.map Prod.fst).zip vs
theorem get_rp {κ : Type} [DecidableEq κ] {K : PySem.W.Frag} {as : List Addr} {F : Hp} (k : κ) : ∀ {kvs : List (κ × Dat)} {vs : List V}, RpL K as F (kvs.map Prod.snd) vs →
    (getK kvs k = none ∧ valV (zipK kvs vs) k = none) ∨ ∃ d v, getK kvs k = some d ∧ valV (zipK kvs vs) k = some v ∧ Rp K as F d v
  | [], [], _ => .inl ⟨rfl, rfl⟩
  | (k', d) :: kvs, v :: vs, h => by
    simp only [List.map_cons, RpL] at h
    by_cases e : k' = k
    · refine .inr ⟨d, v, ?_, ?_, h.1⟩
      · simp [getK, e]
      · exact valV_pos e
    · have ih := get_rp k (kvs := kvs) (vs := vs) h.2
      have e1 : getK ((k', d) :: kvs) k = getK kvs k := by simp [getK, e]
      have e2 : valV (zipK ((k', d) :: kvs) (v :: vs)) k = valV (zipK kvs vs) k := valV_neg e
      rw [e1, e2]
      exact ih
  | [], _ :: _, h => by simp [RpL] at h
  | _ :: _, [], h => by simp [RpL] at h
theorem any_zip {κ : Type} [DecidableEq κ] (k : κ) : ∀ {kvs : List (κ × Dat)} {vs : List V}, vs.length = kvs.length → ((zipK kvs vs).any fun kv => decide (kv.1 = k)) = (kvs.any fun kv => decide (kv.1 = k))
  | [], [], _ => rfl
  | (k', d) :: kvs, v :: vs, h => by
    have ih := any_zip k (kvs := kvs) (vs := vs) (by simpa using h)
    simp only [zipK, List.map_cons, List.zip_cons_cons, List.any_cons] at ih ⊢
    rw [ih]
  | [], _ :: _, h => by simp at h
  | _ :: _, [], h => by simp at h
theorem map_zip {κ : Type} [DecidableEq κ] {K : PySem.W.Frag} {as : List Addr} {F : Hp} {k : κ} {d : Dat} {v : V} (hd : Rp K as F d v) : ∀ {kvs : List (κ × Dat)} {vs : List V}, RpL K as F (kvs.map Prod.snd) vs →
    ∃ vs', (zipK kvs vs).map (fun kv => if kv.1 = k then (kv.1, v) else kv) = zipK (kvs.map fun kv => if kv.1 = k then (kv.1, d) else kv) vs' ∧ RpL K as F ((kvs.map fun kv => if kv.1 = k then (kv.1, d) else kv).map Prod.snd) vs'
  | [], [], _ => ⟨[], rfl, RpL.nil⟩
  | (k', d') :: kvs, v' :: vs, h => by
    simp only [List.map_cons, RpL] at h
    obtain ⟨vs', e, r⟩ := map_zip hd (kvs := kvs) (vs := vs) h.2
    by_cases q : k' = k
    · refine ⟨v :: vs', ?_, ?_⟩
      · simp only [zipK, List.map_cons, List.zip_cons_cons, if_pos q] at e ⊢
        rw [e]
      · simp only [List.map_cons, if_pos q]
        exact RpL.cons hd r
    · refine ⟨v' :: vs', ?_, ?_⟩
      · simp only [zipK, List.map_cons, List.zip_cons_cons, if_neg q] at e ⊢
        rw [e]
      · simp only [List.map_cons, if_neg q]
        exact RpL.cons h.1 r
  | [], _ :: _, h => by simp [RpL] at h
  | _ :: _, [], h => by simp [RpL] at h
theorem put_rp {κ : Type} [DecidableEq κ] {K : PySem.W.Frag} {as : List Addr} {F : Hp} {k : κ} {d : Dat} {v : V} (hd : Rp K as F d v) {kvs : List (κ × Dat)} {vs : List V} (h : RpL K as F (kvs.map Prod.snd) vs) :
    ∃ vs', putK (zipK kvs vs) k v = zipK (putD kvs k d) vs' ∧ RpL K as F ((putD kvs k d).map Prod.snd) vs' := by
  have hl : vs.length = kvs.length := by rw [h.length, List.length_map]
  unfold putK putD
  rw [any_zip k hl]
  by_cases q : (kvs.any fun kv => decide (kv.1 = k)) = true
  · rw [if_pos q, if_pos q]
    exact map_zip hd h
  · rw [if_neg q, if_neg q]
    refine ⟨vs ++ [v], ?_, ?_⟩
    · unfold zipK
      rw [List.map_append, List.zip_append (by rw [List.length_map, hl])]
      rfl
    · rw [List.map_append]
      exact h.append (RpL.one hd)
@[simp] def sDict (i : Nat) : FS := fun e s => if i < e.length then .nx (e.set i (.ow (.dk []))) s else .bad
theorem ds_dict (i : Nat) {y : Str} {pos pos' pos2 : Pos} (hN : X.N.Nodup) (hi : X.N[i]? = some y := by rfl) (hx : Loc X.env.scope y := by first | exact Or.inl rfl | exact Or.inr rfl) (hs : swapsWith (.Dict [] [] pos2) (some (.Name y pos')) pos.line X.env = pure false := by rfl)
    (hf : X.fn y = true ∨ X.env.scope.names.lookup y = some .local := by first | exact .inl rfl | exact .inr rfl) : PS X (.Assign [.Name y pos'] (.Dict [] [] pos2) pos) (tS G (sDict i)) :=
  PS_imp (ps_set hN hi hx pe_dnewK hs hf) fun D σ H ⟨w, e, s, I, h⟩ => by
    intro p hp
    unfold sDict at h
    split at h
    · rename_i c
      exact h (w.plus p) _ _ ((I.plus hp).setOwn c (.inr rfl) (I.fresh0 hp) (I.freshO0 hp) (I.lone hp) upd_same ⟨[], rfl, RpL.nil⟩) (plus_f hp)
    · exact h.elim
theorem IE.ownD {w : Wd} {e : Lcs} {s : Sto} {σ : L2.St} {H : Hp} (I : IE G w e s σ H) {i : Nat} {kvs : List (Key × Dat)} (h : e[i]? = some (.ow (.dk kvs))) : ∃ p vs, σ[i]? = some (some (.ref p)) ∧ w.ow p ∧ G.H0 p = none ∧ ¬ G.O0 p ∧ H p = some (.dK (zipK kvs vs)) ∧ RpL G.K w.as (Fz w H) (kvs.map Prod.snd) vs := by
  obtain ⟨p, ho, h1, h2, h3, h4, h5, vs, rfl, h6⟩ := I.own i _ h
  exact ⟨p, vs, h1, h2, h3, h4, h5, h6⟩
@[simp] def fHas (i : Nat) (no : Bool) (Fk : FE) : FE := fun e s => (Fk e s).bind fun k s1 => match e[i]?, keyOf k with
  | some (.ow (.dk kvs)), some z => .ok (.bool (no != (getK kvs z).isSome)) s1
  | _, _ => .bad
theorem has_of {i : Nat} {no : Bool} {Fk : FE} {σ : L2.St} {H : Hp} {Q : VK} (h : tE G (fHas i no Fk) σ H Q) : tE G Fk σ H fun y H1 => tVar i σ H1 fun x H2 => ∃ a o, x = .ref a ∧ DGet H2 a y o ∧ Q (.bl (no != o.isSome)) H2 := by
  obtain ⟨w, e, s, I, h⟩ := h
  refine ⟨w, e, s, I, holds_imp (holds_bind h) fun k s1 h1 w1 y H1 I1 x1 r1 => ?_⟩
  split at h1
  · rename_i kvs z hi hz
    obtain ⟨p, vs, g1, g2, g3, g4, g5, g6⟩ := I1.ownD hi
    have ey := key_rp r1 hz
    refine ⟨.ref p, g1, p, _, rfl, .inl ⟨_, z, .inl g5, ey, rfl⟩, ?_⟩
    rcases get_rp z g6 with ⟨e1, e2⟩ | ⟨d, v, e1, e2, _⟩
    · rw [e2]
      rw [e1] at h1
      exact h1 w1 _ H1 I1 x1 rp_b
    · rw [e2]
      rw [e1] at h1
      exact h1 w1 _ H1 I1 x1 rp_b
  · exact h1.elim
theorem de_hasNot (i : Nat) {x : Str} {a : Expr} {px pos : Pos} {Fk : FE} (hu : X.A.units + 1 < cLine) (hk : PE X a (tE G Fk)) (hN : X.N[i]? = some x := by rfl) (hv : Vis X.env.scope x := by first | exact Or.inl rfl | exact Or.inr (Or.inl rfl) | exact Or.inr (Or.inr rfl)) (hd : (x == ("__debug__" : Str)) = false := by decide)
    (hcd : (x == ("__classdict__" : Str)) = false := by decide) (hm : behindInMarks .NotIn (.Name x px) = false := by first | exact nomark _ | with_unfolding_all rfl) : PE X (.Compare a [.NotIn] [.Name x px] pos) (tE G (fHas i true Fk)) :=
  PE_imp (pe_cmp (pc_dnotin hu hk (pe_var (i := i) hN hv hd hcd)) hm) fun σ H Q h => by
    have h := has_of h
    simp only [Bool.true_bne] at h
    exact h
@[simp] def fGetOwn (i : Nat) (Fk : FE) : FE := fun e s => match e[i]? with
  | some (.ow (.dk kvs)) => (Fk e s).bind fun k s1 => match keyOf k with
    | some z => match getK kvs z with
      | some d => .ok d s1
      | none => .bad
    | none => .bad
  | _ => .bad
@[simp] def sPutOwn (i : Nat) (Fk Fv : FE) : FS := fun e s => (Fv e s).flo e fun d s1 => match e[i]? with
  | some (.ow (.dk kvs)) => (Fk e s1).flo e fun k s2 => match keyOf k with
    | some z => if kvs.length < sizeLine then .nx (e.set i (.ow (.dk (putD kvs z d)))) s2 else .bad
    | none => .bad
  | _ => .bad
theorem ds_putOwn (i : Nat) {x : Str} {k v : Expr} {pos p2 px : Pos} {Fk Fv : FE} (hu : X.A.units + 1 < cLine) (hv : PE X v (tE G Fv)) (hk : PE X k (tE G Fk)) (hN : X.N[i]? = some x := by rfl) (hvis : Vis X.env.scope x := by first | exact Or.inl rfl | exact Or.inr (Or.inl rfl) | exact Or.inr (Or.inr rfl)) (hd : (x == ("__debug__" : Str)) = false := by decide)
    (hcd : (x == ("__classdict__" : Str)) = false := by decide) (hs : swapsWith v (some (.Subscript (.Name x px) k p2)) pos.line X.env = pure false := by rfl) : PS X (.Assign [.Subscript (.Name x px) k p2] v pos) (tS G (sPutOwn i Fk Fv)) :=
  PS_imp (ps_dput hu (pe_var (i := i) hN hvis hd hcd) hk hv hs) fun D σ H ⟨w, e, s, I, h⟩ => by
    unfold sPutOwn at h
    refine ⟨w, e, s, I, holds_imp (flo_holds h) fun d s1 h1 w1 vv H1 I1 x1 r1 => ?_⟩
    split at h1
    · rename_i kvs hi
      obtain ⟨p, ho, g1, g2, g3, g4, g5, g6⟩ := I1.own i _ hi
      refine ⟨.ref p, g1, w1, e, s1, I1, holds_imp (flo_holds h1) fun k s2 h2 w2 y H2 I2 x2 r2 => ?_⟩
      split at h2
      · rename_i z hz
        split at h2
        · rename_i cl
          obtain ⟨p', vs, l1, l2, l3, l4, l5, l6⟩ := I2.ownD hi
          rw [g1] at l1; cases l1
          obtain ⟨vs', e1, r'⟩ := put_rp (k := z) (x2.rp r1) l6
          refine ⟨p, _, rfl, .inl ⟨_, z, l5, key_rp r2 hz, ?_, rfl⟩, ?_⟩
          · have hl : vs.length = kvs.length := by rw [l6.length, List.length_map]
            simpa [zipK, hl] using cl
          · rw [e1]
            exact h2 w2 σ _ (I2.writeOwn hi g1 ⟨vs', rfl, r'⟩) ((x1.trans x2).f.trans (write_f l2))
        · exact h2.elim
      · exact h2.elim
    · exact h1.elim
end
end DL
namespace DL
open PySem PySem.Spec PyProof.Rows L2
section
variable {X : Cx} {G : Gx}
@[simp] def fStar (Fa : FE) (Fs : FA) : FA := fun e s => (Fa e s).bind fun d s1 => match d with
  | .list xs => (Fs e s1).bind fun ys s2 => .ok (xs ++ ys) s2
  | .tuple xs => (Fs e s1).bind fun ys s2 => .ok (xs ++ ys) s2
  | _ => .bad
theorem da_star {a : Expr} {es : List Expr} {p : Pos} {Fa : FE} {Fs : FA} (hK : X.K = G.K) (ha : PE X a (tE G Fa)) (hs : PA X es (tA G Fs)) (h1 : starEach (a.Starred p :: es) X.env = (true, eval a X.env) :: starEach es X.env := by rfl) : PA X (.Starred a p :: es) (tA G (fStar Fa Fs)) :=
  PA_imp (StX.pa_star ha hs h1) fun σ H Q ⟨w, e, s, I, h⟩ => by
    rw [hK]
    refine ⟨w, e, s, I, holds_imp (holds_bind h) fun d s1 h1 w1 v H1 I1 x1 r1 => ?_⟩
    split at h1
    · rename_i xs
      obtain ⟨q, us, rfl, hp, rx⟩ := rp_list r1
      refine ⟨q, us, rfl, .inr (.inl (.inl (Fz_sub _ _ hp))), w1, e, s1, I1, holds_imp (holds_bind h1) fun ys s2 h2 w2 vs H2 I2 x2 r2 => ?_⟩
      exact h2 w2 _ H2 I2 (x1.trans x2) ((x2.rpl rx).append r2)
    · rename_i xs
      obtain ⟨q, us, rfl, hp, rx⟩ := rp_tuple r1
      refine ⟨q, us, rfl, .inl (sqT_mono Fz_sub hp), w1, e, s1, I1, holds_imp (holds_bind h1) fun ys s2 h2 w2 vs H2 I2 x2 r2 => ?_⟩
      exact h2 w2 _ H2 I2 (x1.trans x2) ((x2.rpl rx).append r2)
    · exact h1.elim
@[simp] def sBad : FS := fun _ _ => .bad
def strs? : List Dat → Option (List Str)
  | [] => some []
  | .str z :: r => (strs? r).map (z :: ·)
  | _ :: _ => none
@[simp] def gJoin : Dat → Dat → Sto → Res Dat := fun a b s => match a, b with
  | .str z, .list xs => match strs? xs with
    | some ys => if (ys.map (·.length)).sum + ys.length * z.length ≤ 16777216 then .ok (.str (Txt.join z ys)) s else .bad
    | none => .bad
  | _, _ => .bad
@[simp] def fJoin (Fo Fa : FE) : FE := fun e s => (Fo e s).bind fun o s1 => match o with
  | .str z => (Fa e s1).bind fun xs s2 => gJoin (.str z) xs s2
  | _ => .bad
end
end DL
namespace DL
open PySem PySem.Spec PyProof.Rows L2
section
variable {X : Cx} {G : Gx}
@[simp] def stripE (e : Lcs) : Lcs := e.map fun z => match z with
  | .ow _ => .un
  | z => z
theorem strip_get {e : Lcs} {i : Nat} {z : Slt} (h : (stripE e)[i]? = some z) : (∀ c, z ≠ .ow c) ∧ ∀ d, z = .fz d → e[i]? = some (.fz d) := by
  unfold stripE at h
  rw [List.getElem?_map] at h
  cases q : e[i]? with
  | none => rw [q] at h; cases h
  | some y =>
    rw [q] at h
    simp only [Option.map_some, Option.some.injEq] at h
    cases y with
    | un => subst h; exact ⟨fun c z => (by cases z), fun d z => (by cases z)⟩
    | fz d => subst h; exact ⟨fun c z => (by cases z), fun d z => (by cases z; rfl)⟩
    | ow c => subst h; exact ⟨fun c z => (by cases z), fun d z => (by cases z)⟩
theorem IE.strip {w : Wd} {e : Lcs} {s : Sto} {σ : L2.St} {H : Hp} (I : IE G w e s σ H) : IE G w (stripE e) s σ H :=
  ⟨by unfold stripE; rw [List.length_map]; exact I.len, fun i d h => I.slot i d ((strip_get h).2 d rfl), fun i c h => absurd rfl ((strip_get h).1 c), fun i j p c c' h _ _ _ => absurd rfl ((strip_get h).1 c), I.slen, I.cells, I.nd, I.dis, I.beg, I.o0, I.there, I.keep, I.cfresh⟩
@[simp] def lc2L (F : FG) (C : FT) (Fj : FA) (F2 : FG) (C2 : FT) (Fe : FE) (vs1 : List Nat) (e : Lcs) : List Dat → Sto → Res (List Dat)
  | [], s => .ok [] s
  | d :: ds, s => (F d e s).noex.bind fun e1 s1 => (C e1 s1).noex.bind fun b s2 => if b then (Fj e1 s2).noex.bind fun es s3 => (lcL F2 C2 Fe (wipeE (stripE e1) vs1) es s3).bind fun ys s4 => (lc2L F C Fj F2 C2 Fe vs1 e ds s4).bind fun zs s5 => .ok (ys ++ zs) s5 else lc2L F C Fj F2 C2 Fe vs1 e ds s2
def NoX {α : Type} (r : Res α) : Prop := ∀ x s, r ≠ .ex x s
theorem nox_ok {α : Type} {a : α} {s : Sto} : NoX (.ok a s) := fun _ _ h => by cases h
theorem nox_noex {α : Type} (r : Res α) : NoX r.noex := fun x s h => by
  cases r <;> simp at h
theorem nox_bind {α β : Type} {r : Res α} {f : α → Sto → Res β} (h : NoX r) (k : ∀ a s, NoX (f a s)) : NoX (r.bind f) := fun x s q => by
  cases r with
  | bad => simp at q
  | ok a s1 => exact k a s1 x s q
  | ex y s1 => exact h y s1 rfl
theorem nox_ite {α : Type} {c : Bool} {a b : Res α} (h : NoX a) (k : NoX b) : NoX (if c then a else b) := by cases c <;> assumption
theorem lcL_nox {F : FG} {C : FT} {Fe : FE} {e : Lcs} : ∀ (ds : List Dat) (s : Sto), NoX (lcL F C Fe e ds s)
  | [], _ => nox_ok
  | d :: ds, s => by
    unfold lcL
    refine nox_bind (nox_noex _) fun e1 s1 => nox_bind (nox_noex _) fun b s2 => nox_ite (nox_bind (nox_noex _) fun y s3 => nox_bind (lcL_nox ds s3) fun ys s4 => nox_ok) (lcL_nox ds s2)
theorem lc2L_nox {F : FG} {C : FT} {Fj : FA} {F2 : FG} {C2 : FT} {Fe : FE} {vs1 : List Nat} {e : Lcs} : ∀ (ds : List Dat) (s : Sto), NoX (lc2L F C Fj F2 C2 Fe vs1 e ds s)
  | [], _ => nox_ok
  | d :: ds, s => by
    unfold lc2L
    refine nox_bind (nox_noex _) fun e1 s1 => nox_bind (nox_noex _) fun b s2 => nox_ite (nox_bind (nox_noex _) fun y s3 => nox_bind (lcL_nox _ s3) fun ys s4 => nox_bind (lc2L_nox ds s4) fun _ _ => nox_ok) (lc2L_nox ds s2)
theorem holds_nox {α : Type} {r : Res α} {P : α → Sto → Prop} {R : Dat → Sto → Prop} (h : r.holds P R) (n : NoX r) (R' : Dat → Sto → Prop) : r.holds P R' := by
  cases r with
  | bad => exact h
  | ok a s => exact h
  | ex x s => exact absurd rfl (n x s)
@[simp] def fLc2 (Fi : FA) (F : FG) (C : FT) (Fj : FA) (F2 : FG) (C2 : FT) (Fe : FE) (vs vs1 : List Nat) : FE := fun e s => (Fi e s).bind fun ds s1 => (lc2L F C Fj F2 C2 Fe vs1 (wipeE e vs) ds s1).bind fun ys s2 => if decide (ys.length ≤ sizeLine) then .ok (.list ys) s2 else .bad
theorem holds_ok {α : Type} {r : Res α} {P : α → Sto → Prop} (h : r.holds P fun _ _ => False) : ∃ a s, r = .ok a s ∧ P a s := by
  cases r with
  | bad => exact h.elim
  | ok a s => exact ⟨a, s, rfl, h⟩
  | ex x s => exact h.elim
theorem wipe_back {σ σ4 : L2.St} {vs is : List Nat} (his : ∀ i ∈ is, i ∈ vs) (a4 : ∀ i, i ∉ is → σ4[i]? = (wipe σ vs)[i]?) (l4 : σ4.length = (wipe σ vs).length) : wipe σ4 vs = wipe σ vs := by
  have e1 : wipe σ4 vs = wipe (wipe σ vs) vs := wipe_eq l4 fun j hj => a4 j fun z => hj (his j z)
  have e2 : wipe (wipe σ vs) vs = wipe σ vs := wipe_eq (wipe_length σ vs) fun j hj => wipe_get hj
  exact e1.trans e2
theorem lc2_of {Fi : FA} {F : FG} {C : FT} {Fj : FA} {F2 : FG} {C2 : FT} {Fe : FE} {vs vs1 is is1 : List Nat} (his : ∀ i ∈ is, i ∈ vs) (his1 : ∀ i ∈ is1, i ∈ vs1) {σ : L2.St} {H : Hp} {Q : VK} (h : tE G (fLc2 Fi F C Fj F2 C2 Fe vs vs1) σ H Q) :
    tLc2 (tI G Fi) (tG G is F) (tT G C) (tI G Fj) (tG G is1 F2) (tT G C2) (tE G Fe) vs vs1 σ H Q := by
  obtain ⟨w, e, s, I, h⟩ := h
  refine ⟨w, e, s, I, holds_imp (holds_bind h) fun ds s1 h1 w1 H1 J I1 x1 W D hD => ?_⟩
  have lone : Lone (wipeE e vs) (wipe σ vs) D := (I1.wipe vs).lone hD
  have d0 : G.H0 D = none := I1.fresh0 hD
  have dn : ¬ w1.ow D := I1.freshO hD
  have d00 : ¬ G.O0 D := I1.freshO0 hD
  have I2 : IE G (w1.plus D) (wipeE e vs) s1 (wipe σ vs) (upd H1 D (.lst [])) := (I1.wipe vs).plus hD
  refine ⟨fun i m H2 => m = ds.length - i ∧ i ≤ ds.length ∧ ∃ w2 s2 acc avs, IE G w2 (wipeE e vs) s2 (wipe σ vs) H2 ∧ FExt w1 H1 w2 H2 ∧ w2.ow = (w1.plus D).ow ∧ (∀ a, w1.ow a → H2 a = H1 a) ∧ H2 D = some (.lst avs) ∧ RpL G.K w2.as (Fz w2 H2) acc avs ∧
      (lc2L F C Fj F2 C2 Fe vs1 (wipeE e vs) (ds.drop i) s2).holds (fun ys s3 => (acc ++ ys).length ≤ sizeLine ∧ kE G w1 e σ H1 Q (.list (acc ++ ys)) s3) (fun _ _ => False),
    ⟨ds.length, by omega, Nat.zero_le _, w1.plus D, s1, [], [], I2, plus_f hD, rfl, fun a ha => upd_ne fun (z : a = D) => dn (by rw [← z]; exact ha), upd_same, RpL.nil, ?_⟩, ?_⟩
  · refine holds_imp (holds_nox (holds_bind h1) (lc2L_nox _ _) _) fun ys s2 h2 => ?_
    split at h2
    · rename_i c
      exact ⟨by simpa using c, kE_ext x1 h2⟩
    · exact h2.elim
  rintro i m H2 ⟨rfl, hi, w2, s2, acc, avs, J2, x2, o2, k2, hD2, ra, q⟩
  have owD : w2.ow D := by rw [o2]; exact .inr rfl
  by_cases hlt : i < ds.length
  · refine .inr ⟨W.go w2 H2 x2 i hlt, fun H3 => ∃ w3 s3 acc avs, IE G w3 (wipeE e vs) s3 (wipe σ vs) H3 ∧ FExt w1 H1 w3 H3 ∧ w3.ow = (w1.plus D).ow ∧ (∀ a, w1.ow a → H3 a = H1 a) ∧ H3 D = some (.lst avs) ∧ RpL G.K w3.as (Fz w3 H3) acc avs ∧
        (lc2L F C Fj F2 C2 Fe vs1 (wipeE e vs) (ds.drop (i + 1)) s3).holds (fun ys s4 => (acc ++ ys).length ≤ sizeLine ∧ kE G w1 e σ H1 Q (.list (acc ++ ys)) s4) (fun _ _ => False), fun H3 k => ⟨ds.length - (i + 1), by omega, rfl, hlt, k⟩, fun v H3 y => ?_⟩
    obtain ⟨J3, x3, d, hd, rd⟩ := W.yld w2 _ s2 _ H2 H3 i v J2 x2 hlt y
    have ed : ds.drop i = d :: ds.drop (i + 1) := by
      rw [List.drop_eq_getElem_cons hlt]
      rw [List.getElem?_eq_getElem hlt] at hd
      cases hd
      rfl
    rw [ed] at q
    unfold lc2L at q
    have on : ∀ {w5 : Wd} {H5 : Hp}, EExt w2 H2 w5 H5 → FExt w1 H1 w5 H5 ∧ w5.ow = (w1.plus D).ow ∧ (∀ a, w1.ow a → H5 a = H1 a) ∧ H5 D = some (.lst avs) ∧ RpL G.K w5.as (Fz w5 H5) acc avs := fun {w5 H5} x =>
      ⟨x2.trans x.f, x.ow.trans o2, fun a ha => (x.own a (by rw [o2]; exact .inl ha)).trans (k2 a ha), (x.own D owD).trans hD2, x.rpl ra⟩
    refine ⟨w2, wipeE e vs, s2, d, J3, rd, holds_imp (holds_noex (holds_bind q) _) fun e4 s4 h4 w4 σ4 H4 I4 x4 a4 l4 => ?_⟩
    have hw : wipe σ4 vs = wipe σ vs := wipe_back his a4 l4
    refine ⟨hw, w4, e4, s4, I4, holds_imp (holds_noex (holds_bind h4) _) fun b s5 h5 w5 H5 I5 x5 => ?_⟩
    have x25 := x3.trans (x4.trans x5)
    cases b with
    | false =>
      simp only [Bool.false_eq_true, if_false] at h5
      obtain ⟨g1, g2, g3, g4, g5⟩ := on x25
      exact iteF ⟨w5, s5, acc, avs, J2.re x25 I5, g1, g2, g3, g4, g5, h5⟩
    | true =>
      simp only [if_true] at h5
      refine iteT ⟨w5, e4, s5, I5, holds_imp (holds_noex (holds_bind h5) _) fun es s6 h6 w6 H6 JJ I6 x6 W1 => ?_⟩
      have x26 := x25.trans x6
      obtain ⟨g1, g2, g3, g4, g5⟩ := on x26
      have ow6 : w6.ow D := by rw [g2]; exact .inr rfl
      have I6w : IE G w6 (wipeE (stripE e4) vs1) s6 (wipe σ4 vs1) H6 := I6.strip.wipe vs1
      have lone1 : Lone (wipeE (stripE e4) vs1) (wipe σ4 vs1) D := fun j c hj => by
        have nw : ∀ (vs : List Nat) (e : Lcs), (∀ (j : Nat) c, e[j]? ≠ some (.ow c)) → ∀ (j : Nat) c, (wipeE e vs)[j]? ≠ some (.ow c) := by
          intro vs
          induction vs with
          | nil => intro e h; exact h
          | cons v vs ih =>
            intro e h j c q
            unfold wipeE at q
            by_cases z : v = j
            · subst z
              by_cases hl : v < (wipeE e vs).length
              · rw [List.getElem?_set_self hl] at q; cases q
              · rw [List.getElem?_eq_none (by rw [List.length_set]; omega)] at q; cases q
            · rw [List.getElem?_set_ne z] at q
              exact ih e h j c q
        exact absurd hj (nw vs1 _ (fun j c h => (strip_get h).1 c rfl) j c)
      refine ⟨fun j k H7 => k = es.length - j ∧ j ≤ es.length ∧ ∃ w7 s7 acc7 avs7, IE G w7 (wipeE e vs) s7 (wipe σ vs) H7 ∧ IE G w7 (wipeE (stripE e4) vs1) s7 (wipe σ4 vs1) H7 ∧ FExt w6 H6 w7 H7 ∧ FExt w1 H1 w7 H7 ∧ w7.ow = (w1.plus D).ow ∧ (∀ a, w1.ow a → H7 a = H1 a) ∧ H7 D = some (.lst avs7) ∧ RpL G.K w7.as (Fz w7 H7) acc7 avs7 ∧
          (lcL F2 C2 Fe (wipeE (stripE e4) vs1) (es.drop j) s7).holds (fun ys s8 => (lc2L F C Fj F2 C2 Fe vs1 (wipeE e vs) (ds.drop (i + 1)) s8).holds (fun zs s9 => (acc7 ++ (ys ++ zs)).length ≤ sizeLine ∧ kE G w1 e σ H1 Q (.list (acc7 ++ (ys ++ zs))) s9) (fun _ _ => False)) (fun _ _ => False),
        ⟨es.length, by omega, Nat.zero_le _, w6, s6, acc, avs, J2.re x26 I6, I6w, .refl, g1, g2, g3, g4, g5, ?_⟩, ?_⟩
      · exact holds_imp (holds_bind h6) fun ys s7 h7 => holds_imp (holds_bind h7) fun zs s8 h8 => h8
      rintro j k H7 ⟨rfl, hj, w7, s7, acc7, avs7, Jo, Ji, x67, x17, o7, k7, hD7, r7, q7⟩
      have owD7 : w7.ow D := by rw [o7]; exact .inr rfl
      by_cases hlt1 : j < es.length
      · refine .inr ⟨W1.go w7 H7 x67 j hlt1, fun H8 => ∃ w8 s8 acc8 avs8, IE G w8 (wipeE e vs) s8 (wipe σ vs) H8 ∧ IE G w8 (wipeE (stripE e4) vs1) s8 (wipe σ4 vs1) H8 ∧ FExt w6 H6 w8 H8 ∧ FExt w1 H1 w8 H8 ∧ w8.ow = (w1.plus D).ow ∧ (∀ a, w1.ow a → H8 a = H1 a) ∧ H8 D = some (.lst avs8) ∧ RpL G.K w8.as (Fz w8 H8) acc8 avs8 ∧
          (lcL F2 C2 Fe (wipeE (stripE e4) vs1) (es.drop (j + 1)) s8).holds (fun ys s9 => (lc2L F C Fj F2 C2 Fe vs1 (wipeE e vs) (ds.drop (i + 1)) s9).holds (fun zs sa => (acc8 ++ (ys ++ zs)).length ≤ sizeLine ∧ kE G w1 e σ H1 Q (.list (acc8 ++ (ys ++ zs))) sa) (fun _ _ => False)) (fun _ _ => False), fun H8 k => ⟨es.length - (j + 1), by omega, rfl, hlt1, k⟩, fun v8 H8 y8 => ?_⟩
        obtain ⟨J8, x8, d8, hd8, rd8⟩ := W1.yld w7 _ s7 _ H7 H8 j v8 Ji x67 hlt1 y8
        have ed8 : es.drop j = d8 :: es.drop (j + 1) := by
          rw [List.drop_eq_getElem_cons hlt1]
          rw [List.getElem?_eq_getElem hlt1] at hd8
          cases hd8
          rfl
        rw [ed8] at q7
        unfold lcL at q7
        have on7 : ∀ {w9 : Wd} {H9 : Hp}, EExt w7 H7 w9 H9 → FExt w6 H6 w9 H9 ∧ FExt w1 H1 w9 H9 ∧ w9.ow = (w1.plus D).ow ∧ (∀ a, w1.ow a → H9 a = H1 a) ∧ H9 D = some (.lst avs7) ∧ RpL G.K w9.as (Fz w9 H9) acc7 avs7 := fun {w9 H9} x =>
          ⟨x67.trans x.f, x17.trans x.f, x.ow.trans o7, fun a ha => (x.own a (by rw [o7]; exact .inl ha)).trans (k7 a ha), (x.own D owD7).trans hD7, x.rpl r7⟩
        refine ⟨w7, wipeE (stripE e4) vs1, s7, d8, J8, rd8, holds_imp (holds_noex (holds_bind q7) _) fun e9 s9 h9 w9 σ9 H9 I9 x9 a9 l9 => ?_⟩
        have hw9 : wipe σ9 vs1 = wipe σ4 vs1 := wipe_back his1 a9 l9
        refine ⟨hw9, w9, e9, s9, I9, holds_imp (holds_noex (holds_bind h9) _) fun b sa ha wa Ha Ia xa => ?_⟩
        have x7a := x8.trans (x9.trans xa)
        cases b with
        | false =>
          simp only [Bool.false_eq_true, if_false] at ha
          obtain ⟨t1, t2, t3, t4, t5, t6⟩ := on7 x7a
          exact iteF ⟨wa, sa, acc7, avs7, Jo.re x7a Ia, Ji.re x7a Ia, t1, t2, t3, t4, t5, t6, ha⟩
        | true =>
          simp only [if_true] at ha
          refine iteT ⟨wa, e9, sa, Ia, holds_imp (holds_noex (holds_bind ha) _) fun yy sb hb wb yv Hb Ib xb rb => ?_⟩
          have x7b := x7a.trans xb
          obtain ⟨t1, t2, t3, t4, t5, t6⟩ := on7 x7b
          have owb : wb.ow D := by rw [t3]; exact .inr rfl
          have hb' := holds_bind hb
          have lenb : acc7.length < sizeLine := by
            obtain ⟨ys, sc, _, hc⟩ := holds_ok hb'
            obtain ⟨zs, sd, _, hd2⟩ := holds_ok (show (lc2L F C Fj F2 C2 Fe vs1 (wipeE e vs) (ds.drop (i + 1)) sc).holds _ _ from hc)
            have := hd2.1
            simp at this
            omega
          refine ⟨avs7, t5, by rw [r7.length]; exact lenb, ?_⟩
          refine ⟨wb, sb, acc7 ++ [yy], avs7 ++ [yv], (Jo.re x7b Ib).write owb d0 lone, (Ji.re x7b Ib).write owb d0 lone1, t1.trans (write_f owb), t2.trans (write_f owb), t3, fun a ha' => ?_, upd_same, ?_, ?_⟩
          · rw [upd_ne fun (z : a = D) => dn (by rw [← z]; exact ha')]
            exact t4 a ha'
          · rw [Fz_own owb]
            exact t6.append (RpL.one rb)
          · refine holds_imp hb' fun ys sc hc => holds_imp hc fun zs sd hd2 => ?_
            have hd3 : (acc7 ++ (yy :: ys ++ zs)).length ≤ sizeLine ∧ kE G w1 e σ H1 Q (.list (acc7 ++ (yy :: ys ++ zs))) sd := hd2
            rw [List.append_assoc]
            exact hd3
      · have e0 : es.drop j = [] := List.drop_eq_nil_of_le (by omega)
        rw [e0] at q7
        refine .inl ⟨W1.stop w7 H7 x67 j (by omega), w7, s7, acc7, avs7, Jo, x17, o7, k7, hD7, r7, ?_⟩
        have q8 : (lc2L F C Fj F2 C2 Fe vs1 (wipeE e vs) (ds.drop (i + 1)) s7).holds (fun zs s9 => (acc7 ++ ([] ++ zs)).length ≤ sizeLine ∧ kE G w1 e σ H1 Q (.list (acc7 ++ ([] ++ zs))) s9) (fun _ _ => False) := q7
        exact q8
  · have e0 : ds.drop i = [] := List.drop_eq_nil_of_le (by omega)
    rw [e0] at q
    refine .inl ⟨W.stop w2 H2 x2 i (by omega), ?_⟩
    have q' : kE G w1 e σ H1 Q (.list (acc ++ [])) s2 := q.2
    rw [List.append_nil] at q'
    have sm2 : Same (Fz w2 H2) (Fz ⟨w2.as, w1.ow⟩ H2) := fun a o h => by
      obtain ⟨z1, z2, z3⟩ := Fz_get h
      exact Fz_of z1 z2 fun z => z3 (by rw [o2]; exact .inl z)
    have ex : EExt w1 H1 ⟨w2.as, w1.ow⟩ H2 := ⟨x2.beg, x2.same.trans sm2, rfl, k2⟩
    have J : IE G ⟨w2.as, w1.ow⟩ (wipeE e vs) s2 (wipe σ vs) H2 := by
      refine ⟨J2.len, fun j d h => ?_, fun j es h => ?_, J2.inj, J2.slen, fun n es h => ?_, J2.nd, fun a ha z => J2.dis a ha (by rw [o2]; exact .inl z), J2.beg, fun a ha => ?_, fun a ha => J2.there a (by rw [o2]; exact .inl ha), J2.keep, J2.cfresh⟩
      · obtain ⟨v, z1, z2⟩ := J2.slot j d h
        exact ⟨v, z1, Rp.mono (.refl _) sm2 _ _ z2⟩
      · obtain ⟨p, us, z1, z2, z3, z4, z5, z6⟩ := J2.own j es h
        refine ⟨p, us, z1, ?_, z3, z4, z5, CR.mono (.refl _) sm2 z6⟩
        rw [o2] at z2
        rcases z2 with z2 | z2
        · exact z2
        · subst z2; exact absurd z1 (lone j es h)
      · obtain ⟨a, us, z1, z2, z3⟩ := J2.cells n es h
        exact ⟨a, us, z1, z2, CR.mono (.refl _) sm2 z3⟩
      · exact I1.o0 a ha
    refine q' ⟨w2.as, w1.ow⟩ (.ref D) H2 (I1.re ex J) ex ?_
    simp only [Rp]
    exact ⟨D, avs, rfl, Fz_of hD2 (fun z => J2.dis D z owD) dn, RpL.mono (.refl _) sm2 _ _ ra⟩
theorem ds_setLc2 (i0 : Nat) {y : Str} {py spos : Pos} {elt tg iter tg1 iter1 : Expr} {ifs ifs1 : List Expr} {scope : Scope} {own : List (Str × Nat)} {vs1 : List Nat} {pos : Pos} {Fi : FA} {F : FG} {C : FT} {Fj : FA} {F2 : FG} {C2 : FT} {Fe : FE} {is is1 : List Nat} (hc : X.calm = true) (hN : X.N.Nodup) (ok : BlkOk X.N X.env.scope scope own) (hsw : swapsWith (.ListComp elt [⟨tg, iter, ifs, 0⟩, ⟨tg1, iter1, ifs1, 0⟩] scope pos) (some (.Name y py)) spos.line X.env = pure true) (hi : PI X tg iter (tI G Fi))
    (hg : ∀ (s : Shared) (H : Hp) (A : Addr) (cl : List (Str × Addr)) (fp : List Addr), PG (X.blk s H scope (compEnvC scope cl A X.env) fp) tg (tG G is F)) (ht : ∀ (s : Shared) (H : Hp) (A : Addr) (cl : List (Str × Addr)) (fp : List Addr), PTs (X.blk s H scope (compEnvC scope cl A X.env) fp) ifs (tT G C))
    (hi1 : ∀ (s : Shared) (H : Hp) (A : Addr) (cl : List (Str × Addr)) (fp : List Addr), PI (X.blk s H scope (compEnvC scope cl A X.env) fp) tg1 iter1 (tI G Fj)) (hg1 : ∀ (s : Shared) (H : Hp) (A : Addr) (cl : List (Str × Addr)) (fp : List Addr), PG (X.blk s H scope (compEnvC scope cl A X.env) fp) tg1 (tG G is1 F2))
    (ht1 : ∀ (s : Shared) (H : Hp) (A : Addr) (cl : List (Str × Addr)) (fp : List Addr), PTs (X.blk s H scope (compEnvC scope cl A X.env) fp) ifs1 (tT G C2)) (he : ∀ (s : Shared) (H : Hp) (A : Addr) (cl : List (Str × Addr)) (fp : List Addr), PE (X.blk s H scope (compEnvC scope cl A X.env) fp) elt (tE G Fe))
    (hy : X.N[i0]? = some y := by rfl) (hyl : X.env.scope.names.lookup y = some .local := by rfl) (hv : ∀ i ∈ vs1, i ∈ own.map (·.2) := by decide) (his : ∀ i ∈ is, i ∈ own.map (·.2) := by decide) (his1 : ∀ i ∈ is1, i ∈ vs1 := by decide) (hs : ∀ x, foldedSetIterable iter X.env x = pure x := by intro _; rfl) (hs1 : ∀ env x, foldedSetIterable iter1 env x = pure x := by intro _ _; rfl) :
    PS X (.Assign [.Name y py] (.ListComp elt [⟨tg, iter, ifs, 0⟩, ⟨tg1, iter1, ifs1, 0⟩] scope pos) spos) (tS G (sSet i0 (fLc2 Fi F C Fj F2 C2 Fe (own.map (·.2)) vs1))) :=
  PS_imp (ps_setLc2 hc hN hy hyl hsw hi ok hv hg ht hi1 hg1 ht1 he hs hs1) fun D σ H h => by
    obtain ⟨w, e, s, I, h'⟩ := tAsg_of (is := [i0]) h
    exact lc2_of his his1 ⟨w, e, s, I, holds_imp h' fun d s1 k w1 v H1 I1 x1 r1 => gName_of (k w1 v H1 I1 x1 r1) (by simp)⟩
end
end DL
namespace DL
open PySem PySem.Spec PyProof.Rows L2
section
variable {X : Cx} {G : Gx}
section
variable {w : Wd} {e : Lcs} {s : Sto} {σ : L2.St} {H : Hp}
theorem IE.cellD (I : IE G w e s σ H) {n : Nat} {kvs : List (Key × Dat)} (h : s[n]? = some (.dk kvs)) : ∃ a vs, w.as[n]? = some a ∧ H a = some (.dK (zipK kvs vs)) ∧ RpL G.K w.as (Fz w H) (kvs.map Prod.snd) vs := by
  obtain ⟨a, ho, h1, h2, vs, rfl, h3⟩ := I.cells n _ h
  exact ⟨a, vs, h1, h2, h3⟩
end
@[simp] def fCellL (Fs : FA) : FE := fun e s => (Fs e s).bind fun ds s1 => if cLen ds then .ok (cel s1.length) (s1 ++ [.ls ds]) else .bad
@[simp] def fCellD : FE := fun _ s => .ok (cel s.length) (s ++ [.dk []])
def rIxD : R2 := fun x y H Q => ∃ a v, x = .ref a ∧ DGet H a y (some v) ∧ Q v H
theorem ix_dict (hu : X.A.units + 1 < cLine) : IxR X rIxD := by
  intro value slice pins s σ H x y v u Q I rx ry h hs
  obtain ⟨a, z, rfl, g, q⟩ := h
  cases (show v = Value.ref a from rx)
  have ht := dict_typeIs I g
  unfold subscriptTail
  refine wpAny_bind ?_
  rw [getitemInPython_of_ne ht.not_modules]
  refine wpAny_bind (wpAny_specialOf ht PySem.F.slot_dict_getitem.lookup ?_)
  have go : wpAny (model X.prog X.w) X.A (subscripted slice false (.ref a) u) (fun r s3 => wpAny (model X.prog X.w) X.A (letTemporaryGo value (.ref a) r >>= fun _ => pure r) (EP X pins σ Q) X.xe s3) X.xe s := by
    rw [hs]
    exact wpAny_operating (d_getItem hu I g ry fun w' s3 I3 rw' => wpAny_bind (wpAny_letTemporaryGo (wpAny_pure ⟨z, H, I3, rw', q⟩)))
  first
    | exact wpAny_pure (wpAny_bind go)
    | exact wpAny_bind (wpAny_pure (wpAny_bind go))
    | exact wpAny_bind go
@[simp] def gIx2 : Dat → Dat → Sto → Res Dat := fun a b s => match a with
  | .dict [(.int n, .none)] => match s[n.toNat]? with
    | some (.dk kvs) => match keyOf b with
      | some z => match getK kvs z with
        | some d => .ok d s
        | none => .bad
      | none => .bad
    | _ => gIx a b s
  | _ => gIx a b s
theorem opIx2 : OpD G (fun x y H Q => L2.rIx G.K x y H Q ∨ rIxD x y H Q) gIx2 := by
  intro w e s σ H x y a b Q I ra rb h
  unfold gIx2 at h
  split at h
  · rename_i n
    split at h
    · rename_i kvs hs
      split at h
      · rename_i z hz
        split at h
        · rename_i d hg
          have ra' : ∃ a, x = .ref a ∧ w.as[n.toNat]? = some a := by simpa [Rp] using ra
          obtain ⟨p, rfl, hp⟩ := ra'
          obtain ⟨a', vs, e1, e2, e3⟩ := I.cellD hs
          rw [hp] at e1; cases e1
          rcases get_rp z e3 with ⟨t1, t2⟩ | ⟨d2, v, t1, t2, r2⟩
          · rw [t1] at hg; cases hg
          · rw [t1] at hg; cases hg
            exact .inr ⟨p, v, rfl, .inl ⟨_, z, .inl e2, key_rp rb hz, t2.symm⟩, flat_ok I h r2⟩
        · exact h.elim
      · exact h.elim
    · exact .inl (opIx w e s σ H x y _ b Q I ra rb h)
  · exact .inl (opIx w e s σ H x y _ b Q I ra rb h)
def rInDk : R2 := fun x y H Q => ∃ a o, y = .ref a ∧ DGet H a x o ∧ Q (.bl o.isSome) H
def rNotInDk : R2 := fun x y H Q => ∃ a o, y = .ref a ∧ DGet H a x o ∧ Q (.bl (!o.isSome)) H
theorem op_inDk (hu : X.A.units + 1 < cLine) : OpR X (compareOp .In) rInDk := fun pins s σ H x y v u Q I rx ry ⟨a, o, ey, g, q⟩ => by
  subst ey
  cases (show u = Value.ref a from ry)
  exact d_in hu I g rx fun s3 I3 => ⟨.bl o.isSome, H, I3, rfl, q⟩
theorem op_notInDk (hu : X.A.units + 1 < cLine) : OpR X (compareOp .NotIn) rNotInDk := fun pins s σ H x y v u Q I rx ry ⟨a, o, ey, g, q⟩ => by
  subst ey
  cases (show u = Value.ref a from ry)
  exact d_notIn hu I g rx fun s3 I3 => ⟨.bl (!o.isSome), H, I3, rfl, q⟩
def hasC (a b : Dat) (s : Sto) : Option Bool := match b with
  | .dict [(.int n, .none)] => match s[n.toNat]? with
    | some (.dk kvs) => (keyOf a).map fun z => (getK kvs z).isSome
    | _ => none
  | _ => none
@[simp] def gIn2 : Dat → Dat → Sto → Res Dat := fun a b s => match hasC a b s with
  | some k => .ok (.bool k) s
  | none => gIn a b s
@[simp] def gNotIn2 : Dat → Dat → Sto → Res Dat := fun a b s => match hasC a b s with
  | some k => .ok (.bool (!k)) s
  | none => gNotIn a b s
theorem hasC_rp {w : Wd} {e : Lcs} {s : Sto} {σ : L2.St} {H : Hp} {a b : Dat} {x y : V} {k : Bool} (I : IE G w e s σ H) (ra : Rp G.K w.as (Fz w H) a x) (rb : Rp G.K w.as (Fz w H) b y) (h : hasC a b s = some k) : ∃ p o, y = .ref p ∧ DGet H p x o ∧ o.isSome = k := by
  unfold hasC at h
  split at h
  · rename_i n
    split at h
    · rename_i kvs hs
      rw [Option.map_eq_some_iff] at h
      obtain ⟨z, hz, rfl⟩ := h
      have rb' : ∃ a, y = .ref a ∧ w.as[n.toNat]? = some a := by simpa [Rp] using rb
      obtain ⟨p, rfl, hp⟩ := rb'
      obtain ⟨a', vs, e1, e2, e3⟩ := I.cellD hs
      rw [hp] at e1; cases e1
      refine ⟨p, _, rfl, .inl ⟨_, z, .inl e2, key_rp ra hz, rfl⟩, ?_⟩
      rcases get_rp z e3 with ⟨t1, t2⟩ | ⟨d2, v, t1, t2, r2⟩
      · rw [t1, t2]; rfl
      · rw [t1, t2]; rfl
    · cases h
  · cases h
theorem opIn2 : OpD G (fun x y H Q => rIn3 G.K x y H Q ∨ rInDk x y H Q) gIn2 := by
  intro w e s σ H x y a b Q I ra rb h
  unfold gIn2 at h
  split at h
  · rename_i k hk
    obtain ⟨p, o, e1, g, e2⟩ := hasC_rp I ra rb hk
    exact .inr ⟨p, o, e1, g, by rw [e2]; exact flat_ok I h rp_b⟩
  · exact .inl (opIn w e s σ H x y a b Q I ra rb h)
theorem opNotIn2 : OpD G (fun x y H Q => rNotIn3 G.K x y H Q ∨ rNotInDk x y H Q) gNotIn2 := by
  intro w e s σ H x y a b Q I ra rb h
  unfold gNotIn2 at h
  split at h
  · rename_i k hk
    obtain ⟨p, o, e1, g, e2⟩ := hasC_rp I ra rb hk
    exact .inr ⟨p, o, e1, g, by rw [e2]; exact flat_ok I h rp_b⟩
  · exact .inl (opNotIn w e s σ H x y a b Q I ra rb h)
theorem room1 {k : Nat} {A : Around} (hr : Room k A) : A.units + 1 < cLine := by have := hr.un; omega
theorem op_in4 {k : Nat} (hr : Room k X.A) (hK : X.K = G.K) : OpR X (compareOp .In) (fun x y H Q => rIn3 G.K x y H Q ∨ rInDk x y H Q) := OpR.or (by rw [← hK]; exact (op_inD (room65 hr)).or ((op_inT (room65 hr)).or op_in_str)) (op_inDk (room1 hr))
theorem op_notIn4 {k : Nat} (hr : Room k X.A) (hK : X.K = G.K) : OpR X (compareOp .NotIn) (fun x y H Q => rNotIn3 G.K x y H Q ∨ rNotInDk x y H Q) := OpR.or (by rw [← hK]; exact (op_notInD (room65 hr)).or ((op_notInT (room65 hr)).or op_notIn_str)) (op_notInDk (room1 hr))
@[simp] def gLen2 : List Dat → Sto → Res Dat := fun ds s => match ds with
  | [.dict [(.int n, .none)]] => match s[n.toNat]? with
    | some (.dk kvs) => .ok (.int kvs.length) s
    | some (.ls xs) => .ok (.int xs.length) s
    | _ => .bad
  | _ => gLen ds s
def rLen2 (K : PySem.W.Frag) : List V → Hp → VK → Prop := fun xs H Q => (∃ x n, xs = [x] ∧ LenV K x H n ∧ Q (.int n) H) ∨ ∃ a kvs, xs = [V.ref a] ∧ H a = some (.dK kvs) ∧ Q (.int kvs.length) H
theorem cdLen2 : CallD G (rLen2 G.K) gLen2 := by
  intro w e s σ H xs ds Q I r h
  unfold gLen2 at h
  split at h
  · rename_i n
    obtain ⟨v, rfl, r1⟩ := rpl1 r
    have r1' : ∃ a, v = .ref a ∧ w.as[n.toNat]? = some a := by simpa [Rp] using r1
    obtain ⟨p, rfl, hp⟩ := r1'
    split at h
    · rename_i kvs hs
      obtain ⟨a', vs, e1, e2, e3⟩ := I.cellD hs
      rw [hp] at e1; cases e1
      refine .inr ⟨p, _, rfl, e2, ?_⟩
      have hl : (zipK kvs vs).length = kvs.length := by
        have := e3.length
        rw [List.length_map] at this
        simp [zipK, this]
      rw [hl]
      exact flat_ok I h rp_i
    · rename_i ys hs
      obtain ⟨a', vs, e1, e2, e3⟩ := I.cellL hs
      rw [hp] at e1; cases e1
      refine .inl ⟨.ref p, _, rfl, .inl ⟨vs, .inl (.inl e2), rfl⟩, ?_⟩
      rw [e3.length]
      exact flat_ok I h rp_i
    · exact h.elim
  · exact .inl (cdLen w e s σ H xs ds Q I r h)
theorem de_len2 {p pos : Pos} {a : Expr} {es : List Expr} {Fs : FA} (hK : X.K = G.K) (hm : X.mg "len" = none) (ha : PA X (a :: es) (tA G Fs)) (hgl : Gl X "len" := by rfl) (he : starEach (a :: es) X.env = (false, eval a X.env) :: starEach es X.env := by rfl) (hpl : (backTo pos (starEach es X.env)).any (·.1) = false := by rfl) :
    PE X (.Call (.Name "len" p) (a :: es) [] pos) (tE G (fCall gLen2 Fs)) := de_callB (CallR.or call_len call_lenD) (by rw [hK]; exact cdLen2) hm ha (hgl := hgl) (he := he) (hpl := hpl)
@[simp] def gTupOf2 : List Dat → Sto → Res Dat := fun ds s => match ds with
  | [.dict [(.int n, .none)]] => match s[n.toNat]? with
    | some (.ls xs) => .ok (.tuple xs) s
    | _ => .bad
  | _ => gTupOf ds s
theorem cdTup2 : CallD G (fun xs H Q => ∃ p ys, xs = [V.ref p] ∧ ((SqL G.K H p ys ∧ ∀ l, H l = none → Q (.ref l) (upd H l (.tup ys))) ∨ (SqT G.K H p ys ∧ Q (.ref p) H))) gTupOf2 := by
  intro w e s σ H xs ds Q I r h
  unfold gTupOf2 at h
  split at h
  · rename_i n
    obtain ⟨v, rfl, r1⟩ := rpl1 r
    have r1' : ∃ a, v = .ref a ∧ w.as[n.toNat]? = some a := by simpa [Rp] using r1
    obtain ⟨p, rfl, hp⟩ := r1'
    split at h
    · rename_i ys hs
      obtain ⟨a', vs, e1, e2, e3⟩ := I.cellL hs
      rw [hp] at e1; cases e1
      exact ⟨p, vs, rfl, .inl ⟨.inl (.inl e2), fun l hl => new_tuple I e3 h hl⟩⟩
    · exact h.elim
  · exact cdTup w e s σ H xs ds Q I r h
theorem de_tupOf2 {p pos : Pos} {a : Expr} {es : List Expr} {Fs : FA} (hK : X.K = G.K) (hm : X.mg "tuple" = none) (ha : PA X (a :: es) (tA G Fs)) (hgl : Gl X "tuple" := by rfl) (he : starEach (a :: es) X.env = (false, eval a X.env) :: starEach es X.env := by rfl) (hpl : (backTo pos (starEach es X.env)).any (·.1) = false := by rfl) :
    PE X (.Call (.Name "tuple" p) (a :: es) [] pos) (tE G (fCall gTupOf2 Fs)) := de_callTy call_tuple_of (by rw [hK]; exact cdTup2) hm ha (hgl := hgl) (he := he) (hpl := hpl)
def rSetD (hz : Nat) : V → V → V → Hp → (Hp → Prop) → Prop := fun o i v H Q => ∃ a H', o = .ref a ∧ DPut H a i v H' ∧ Q H'
theorem set_dict (hu : X.A.units + 1 < cLine) : PSet X (rSetD 0) := by
  intro pins s σ H o i v ov iv u Q I ro ri rv h
  obtain ⟨a, H', rfl, g, q⟩ := h
  cases (show ov = Value.ref a from ro)
  exact d_setItem hu I g ri rv fun s' I' => ⟨H', I', q⟩
theorem set_any (hu : X.A.units + 1 < cLine) : PSet X (fun o i v H Q => rSetL o i v H Q ∨ rSetD 0 o i v H Q) := by
  intro pins s σ H o i v ov iv u Q I ro ri rv h
  rcases h with h | h
  · exact set_list pins s σ H o i v ov iv u Q I ro ri rv h
  · exact set_dict hu pins s σ H o i v ov iv u Q I ro ri rv h
@[simp] def sItem2 (Fo Fi Fv : FE) : FS := fun e s => (Fv e s).flo e fun d s1 => (Fo e s1).flo e fun o s2 => (Fi e s2).flo e fun k s3 => match o with
  | .dict [(.int n, .none)] => match s3[n.toNat]? with
    | some (.ls ds) => match k with
      | .int j => match ixN ds.length j with
        | some m => .nx e (s3.set n.toNat (.ls (ds.set m d)))
        | none => .bad
      | _ => .bad
    | some (.dk kvs) => match keyOf k with
      | some z => if kvs.length < sizeLine then .nx e (s3.set n.toNat (.dk (putD kvs z d))) else .bad
      | none => .bad
    | _ => .bad
  | _ => .bad
@[simp] def sAppendC (Fo Fa : FE) : FS := fun e s => (Fo e s).flo e fun o s1 => match o with
  | .dict [(.int n, .none)] => match s1[n.toNat]? with
    | some (.ls _) => (Fa e s1).flo e fun d s2 => match s2[n.toNat]? with
      | some (.ls ds) => if ds.length < sizeLine then .nx e (s2.set n.toNat (.ls (ds ++ [d]))) else .bad
      | _ => .bad
    | _ => .bad
  | _ => .bad
end
end DL
namespace DL
open PySem PySem.Spec PyProof.Rows L2
section
variable {X : Cx} {G : Gx}
def inst (id : Nat) (o : Dat) (s : Sto) : Option (Nat × List Dat) := match o with
  | .dict [(.int n, .none)] => match s[n.toNat]? with
    | some (.ob id' ds) => if id' = id then some (n.toNat, ds) else none
    | _ => none
  | _ => none
@[simp] def oFld (id j : Nat) (Fo : FE) : FE := fun e s => (Fo e s).bind fun o s1 => match inst id o s1 with
  | some (_, ds) => match ds[j]? with
    | some d => .ok d s1
    | none => .bad
  | none => .bad
def stored (j : Nat) (d : Dat) (ds : List Dat) : Option (List Dat) := if j < ds.length then some (ds.set j d) else if j = ds.length then some (ds ++ [d]) else none
@[simp] def soFld (id j : Nat) (Fo Fv : FE) : FS := fun e s => (Fv e s).flo e fun d s1 => (Fo e s1).flo e fun o s2 => match inst id o s2 with
  | some (n, ds) => match stored j d ds with
    | some ds' => .nx e (s2.set n (.ob id ds'))
    | none => .bad
  | none => .bad
@[simp] def soFldAdd (id j : Nat) (Fo Fv : FE) : FS := fun e s => (Fo e s).flo e fun o s1 => match inst id o s1 with
  | some (n, ds) => match ds[j]? with
    | some (.int a) => (Fv e s1).flo e fun d s2 => match d with
      | .int b => match s2[n]? with
        | some (.ob id2 es) => if id2 = id ∧ j < es.length then .nx e (s2.set n (.ob id (es.set j (.int (a + b))))) else .bad
        | _ => .bad
      | _ => .bad
    | _ => .bad
  | none => .bad
@[simp] def oMethR (id : Nat) (g : List Dat → Sto → Res Dat) (Fo : FE) (Fs : FA) : FE := fun e s => (Fo e s).bind fun o s1 => match inst id o s1 with
  | some _ => (Fs e s1).bind fun ds s2 => g (o :: ds) s2
  | none => .bad
@[simp] def oMeth (id : Nat) (g : List Dat → Sto → Res Dat) (Fo : FE) (Fs : FA) : FE := fun e s => (Fo e s).bind fun o s1 => match inst id o s1 with
  | some _ => (Fs e s1).bind fun ds s2 => (g (o :: ds) s2).noex
  | none => .bad
section
variable {k : Nat} {f C : Addr} {fd : FuncData} {ps : List Str} {m : Str} {pos apos : Pos} {a o : Expr} {es : List Expr} {pl : Sem Bool} {g : List Dat → Sto → Res Dat} {Fo : FE} {Fs : FA} {fns : List Str}
@[simp] def oMake (id : Nat) (g : List Dat → Sto → Res Dat) (Fs : FA) : FE := fun e s => (Fs e s).bind fun ds s1 => (g (cel s1.length :: ds) (s1 ++ [.ob id []])).noex.bind fun d s2 => match d with
  | .none => .ok (cel s1.length) s2
  | _ => .bad
end
end
end DL
namespace PySem
namespace ExF
open PySem.W PySem.Calls PyProof.Rows PySem.HandSPX
structure Chain (mro : List Value) : Prop where
  ob : mro.contains (.type "object") = true
  ne : mro.isEmpty = false
  pass : ∀ self, refuseLoop self "__setattr__" mro = pure ()
theorem chain2 (C B : Addr) : Chain [.ref C, .ref B, .type "Exception", .type "BaseException", .type "object"] :=
  ⟨by rw [List.contains_cons, List.contains_cons]; rfl, rfl, fun self => by rw [refuseLoop_ref, refuseLoop_ref]; exact F.store_Exception.passes self⟩
section
variable {prog : Program} {w : World} {A : Around} {R : Result → Shared → Prop} {hp : Heap} {g : Array GenState} {dr : Drawn} {t : Nat} {os : OsState} {K : Frag} {nm : Str} {tk : Tok} {v : Value} {x C dx : Addr} {fv : Array Value} {cd : ClassData}
open Builtin Builtin.ObjectAttr
theorem put_first (X : K.In hp) (hx : hp.get? x = some { cls := .ref C, data := .fields fv }) (hcd : W.clsIn K C = some cd) (hm : Chain cd.mro) (hh : cd.hasDict = true) (ha : W.findIn K (.ref C) nm = some none)
    (hq : ∀ h2 tk2 d2, (∀ b o, b ≠ x → hp.get? b = some o → h2.get? b = some o) → hp.objs.size ≤ d2 → d2 ≠ x → h2.get? x = some { cls := .ref C, dict := some d2, data := .fields fv } → h2.Ns1 d2 (fun y => if y = nm then some v else none) → R (.ok (.ret .none)) ⟨h2, g, dr, tk2, os⟩) :
    codeAny (model prog w) A (.call (.builtin "object.__setattr__") ⟨[.ref x, .str nm tk, v], []⟩) R ⟨hp, g, dr, t, os⟩ := by
  have hxs : x ≠ hp.objs.size := Nat.ne_of_lt (Heap.lt_size hx)
  have at_ : W.InstAt hp x { cls := .ref C, data := .fields fv } C none := ⟨hx, rfl, rfl, trivial⟩
  have isob : W.Looks (model prog w) hp (isInstance (.ref x) (.type "object")) true := at_.type.andThen (W.looks_mroIn X (by unfold W.mroIn; rw [hcd, Option.bind_some, if_neg (by rw [hm.ne]; decide), hm.ob]))
  have ST := F.store_object
  refine codeAny_call_builtin ST.slot.plain ST.entry (@W.check_slot (model prog w) _ _ ⟨hp, g, dr, t, os⟩ "object.__setattr__" "object" "__setattr__" (.ref x) [.str nm tk, v] [] _ ST.kind ST.split isob (ST.args (.ref x) (.str nm tk) v) ?_)
  have look : W.Looks (model prog w) hp (classData C) cd := W.looks_clsIn X hcd
  have lookM : W.Looks (model prog w) hp (mroOf (.ref C)) cd.mro := look.andThen .now
  have lookT : W.Looks (model prog w) hp (storeTaker? none) none := .now
  rw [W.osa_eq, refuse_eq]
  refine wpAny_bind (wpAny_bind (at_.type.at (wpAny_bind (lookM.at ?_))))
  rw [hm.pass]
  refine wpAny_pure (wpAny_bind (at_.type.at (wpAny_bind ((W.looks_findIn X ha).at (wpAny_bind (lookT.at ?_))))))
  show wpAny _ _ (storeInOwnDict (.ref x) (.ref C) (.str nm tk) nm v false) _ _ _
  obtain ⟨cn, bs, mro, ns, qn, hd, sn, sb, ab, col, del⟩ := cd
  dsimp only at hh
  subst hh
  unfold storeInOwnDict ownDictForStores
  repeat (first | with_reducible refine store_in_new ?_ ?_ | with_reducible refine wpAny_loadPart_at hx ?_ | with_reducible refine look.at ?_ | wp_step)
  · exact ⟨_, #[], _, (Heap.get?_update_ne _ _ _ _ hxs.symm).trans (Heap.get?_push_at rfl rfl), rfl, fun z hz => absurd hz (by simp), fun _ => rfl⟩
  · intro h2 tk2 hn hs
    have was : (hp.push { cls := .type "dict", data := .dict #[] }).get? x = some { cls := .ref C, data := .fields fv } := Heap.get?_push_of_some _ hx
    exact hq h2 tk2 hp.objs.size (fun b o hb ho => (hs.2 b (Nat.ne_of_lt (Heap.lt_size ho))).trans ((Heap.get?_update_ne _ _ _ _ hb).trans (Heap.get?_push_of_some _ ho))) (Nat.le_refl _) hxs.symm ((hs.2 x hxs).trans (Heap.get?_update_self _ was rfl)) hn
theorem put_next {m0 : Str → Option Value} {nl : List Str} (X : K.In hp) (hx : hp.get? x = some { cls := .ref C, dict := some dx, data := .fields fv }) (hns : hp.Ns1 dx m0) (hw : Within m0 nl) (hz : nl.length ≤ 1000) (hcd : W.clsIn K C = some cd) (hm : Chain cd.mro) (hh : cd.hasDict = true) (ha : W.findIn K (.ref C) nm = some none)
    (hq : ∀ h2 tk2, (∀ b o, b ≠ dx → hp.get? b = some o → h2.get? b = some o) → h2.Ns1 dx (fun y => if y = nm then some v else m0 y) → R (.ok (.ret .none)) ⟨h2, g, dr, tk2, os⟩) :
    codeAny (model prog w) A (.call (.builtin "object.__setattr__") ⟨[.ref x, .str nm tk, v], []⟩) R ⟨hp, g, dr, t, os⟩ := by
  obtain ⟨oD, esD, epD, hoD, hdD, _⟩ := hns.count hw
  have at_ : W.InstAt hp x { cls := .ref C, dict := some dx, data := .fields fv } C (some oD) := ⟨hx, rfl, rfl, hoD⟩
  have isob : W.Looks (model prog w) hp (isInstance (.ref x) (.type "object")) true := at_.type.andThen (W.looks_mroIn X (by unfold W.mroIn; rw [hcd, Option.bind_some, if_neg (by rw [hm.ne]; decide), hm.ob]))
  have ST := F.store_object
  refine codeAny_call_builtin ST.slot.plain ST.entry (@W.check_slot (model prog w) _ _ ⟨hp, g, dr, t, os⟩ "object.__setattr__" "object" "__setattr__" (.ref x) [.str nm tk, v] [] _ ST.kind ST.split isob (ST.args (.ref x) (.str nm tk) v) ?_)
  have look : W.Looks (model prog w) hp (classData C) cd := W.looks_clsIn X hcd
  have lookM : W.Looks (model prog w) hp (mroOf (.ref C)) cd.mro := look.andThen .now
  have lookT : W.Looks (model prog w) hp (storeTaker? none) none := .now
  rw [W.osa_eq, refuse_eq]
  refine wpAny_bind (wpAny_bind (at_.type.at (wpAny_bind (lookM.at ?_))))
  rw [hm.pass]
  refine wpAny_pure (wpAny_bind (at_.type.at (wpAny_bind ((W.looks_findIn X ha).at (wpAny_bind (lookT.at ?_))))))
  show wpAny _ _ (storeInOwnDict (.ref x) (.ref C) (.str nm tk) nm v false) _ _ _
  obtain ⟨cn, bs, mro, ns, qn, hd, sn, sb, ab, col, del⟩ := cd
  dsimp only at hh
  subst hh
  unfold storeInOwnDict ownDictForStores
  repeat (first | with_reducible refine PySem.OEX.store_in_old hns hw hz ?_ | with_reducible refine wpAny_loadPart_at hx ?_ | with_reducible refine look.at ?_ | wp_step)
  exact fun h2 tk2 hn hs => hq h2 tk2 (fun b o hb ho => (hs.2 b hb).trans ho) hn
end
theorem one_line {us : List Value} (h : us.length ≤ 1000) : us.length ≤ sizeLine := by
  rw [sizeLine_eq]
  omega
theorem kept_in {K : Frag} {h h2 : Heap} {x : Addr} (X : K.In h) (hx : K.lookup x = none) (k : ∀ b o, b ≠ x → h.get? b = some o → h2.get? b = some o) : K.In h2 := fun a o e => k a o (fun z => by rw [z, hx] at e; cases e) (X a o e)
theorem ld_local {M : Model} {s : Shared} {qn : Str} {sc : Scope} {L a : Addr} {cd : Value} {m : Str → Option Value} {y : Str} {pos : Pos} {v : Value} {Q : Value → Shared → Prop} {A : Around} {E : Value → Shared → Prop} (hn : s.heap.Ns L m) (hv : m y = some v) (h : Q v s)
    (hk : sc.kind = .function := by rfl) (hl : (envOfC qn sc L a cd).kindOf y = some .local := by rfl) (hd : (y == ("__debug__" : Str)) = false := by decide) : wpAny M A (eval (.Name y pos) (envOfC qn sc L a cd)) Q E s := wpAny_Name (wpAny_loadName_local hk hl hn hv h) hd
structure Begun (h h2 : Heap) (x C d t1 : Addr) (f : Str → Option Value) : Prop where
  keep : ∀ b o, b ≠ x → h.get? b = some o → h2.get? b = some o
  obj : h2.get? x = some { cls := .ref C, dict := some d, data := .fields #[.ref t1, .none, .none, .none, .bool false, .none] }
  big : h.objs.size ≤ d
  ne : d ≠ x
  ns : h2.Ns1 d f
structure Made (h h2 : Heap) (e C d : Addr) (f : Str → Option Value) : Prop where
  keep : ∀ b o, h.get? b = some o → h2.get? b = some o
  new : h.objs.size ≤ e
  obj : ∃ oe vs, h2.get? e = some oe ∧ oe.cls = .ref C ∧ oe.dict = some d ∧ oe.data = .fields vs ∧ vs[1]? = some .none
  big : h.objs.size ≤ d
  ne : d ≠ e
  ns : h2.Ns1 d f
structure ExC (K : Frag) (C B fI : Addr) : Prop where
  cls : ∃ nm q N bs sn sub ab col dd k0 k1 k2 k3 k5, K.lookup C = some (excClassObj nm q C N bs [.ref B, .type "Exception", .type "BaseException", .type "object"] true sn sub ab col dd k0 k1 k2 k3 k5 "Exception.__new__")
  sa : findIn K (.ref C) "__setattr__" = some (some (.builtin "object.__setattr__"))
  ga : findIn K (.ref C) "__getattribute__" = some (some (.builtin "BaseException.__getattribute__"))
  gg : findIn K (.ref C) "__getattr__" = some none
  iC : findIn K (.ref C) "__init__" = some (some (.ref fI))
  tI : typeIn K (.ref fI) = some (.type "function")
  kC : keepIn K (.ref C) = true
  exC : subIn K (.ref C) (.type "BaseException") = some true
  tyC : typeIn K (.ref C) = some (.type "type")
  hdC : hasDictIn K C = true
section
variable {prog : Program} {w : World} {A : Around} {R : Result → Shared → Prop} {s : Shared} {K : Frag} {C B fI : Addr}
theorem made_of (T : ExC K C B fI) {us : List Value} {f : Str → Option Value} (hl : us.length ≤ 1000) (X : K.In s.heap) (hlim : s.heap.NoLimit) (hroom : A.depth + 1 < recursionLimit)
    (init : ∀ {A : Around} {R : Result → Shared → Prop} {s : Shared} {x t0 : Addr}, K.In s.heap → s.heap.NoLimit → s.heap.get? x = some (excO C t0) → K.lookup x = none → A.depth < recursionLimit → (∀ h2 tk d, Begun s.heap h2 x C d t0 f → R (.ok (.ret .none)) { s with heap := h2, toks := tk }) → codeAny (model prog w) A (.call (.ref fI) ⟨.ref x :: us, []⟩) R s)
    (hq : ∀ h2 tk e d, Made s.heap h2 e C d f → R (.ok (.ret (.ref e))) { s with heap := h2, toks := tk }) : codeAny (model prog w) A (.call (.ref C) ⟨us, []⟩) R s := by
  obtain ⟨nm, q, N, bs, sn, sub, ab, col, dd, k0, k1, k2, k3, k5, hC⟩ := T.cls
  obtain ⟨hp, g, dr, tk, os⟩ := s
  have up : ∀ b o, hp.get? b = some o → ((hp.push (kdv_tup us)).push (excO C hp.objs.size)).get? b = some o := fun b o e => Heap.get?_push_of_some _ (Heap.get?_push_of_some _ e)
  have at_ : ((hp.push (kdv_tup us)).push (excO C hp.objs.size)).get? (hp.objs.size + 1) = some (excO C hp.objs.size) := by heap_get
  have none_ : K.lookup (hp.objs.size + 1) = none := by
    cases e : K.lookup (hp.objs.size + 1) with
    | none => rfl
    | some o => exact absurd (Nat.lt_of_succ_lt (Heap.lt_size (show hp.get? (hp.objs.size + 1) = some o from X _ _ e))) (Nat.lt_irrefl _)
  refine call_own F.excBase_Exception (fun Y => by rw [List.contains_cons]; rfl) (X _ _ hC) (looks_findIn X T.iC) (fun self => bind_fn X self T.tI) (one_line hl) ?_
  refine init (s := ⟨(hp.push (kdv_tup us)).push (excO C hp.objs.size), g, dr, tk, os⟩) (X.keeps up) (hlim.keeps up) at_ none_ (show A.depth + 1 < recursionLimit from hroom) fun h2 tk2 d BB => ?_
  have big : hp.objs.size + 1 + 1 ≤ d := by
    have q := BB.big
    first
      | exact q
      | (simpa only [Heap.size_push] using q)
  exact ⟨rfl, hq h2 tk2 (hp.objs.size + 1) d ⟨fun b o e => BB.keep b o (Nat.ne_of_lt (Nat.lt_succ_of_lt (Heap.lt_size e))) (up b o e), Nat.le_succ _, ⟨_, _, BB.obj, rfl, rfl, rfl, rfl⟩, Nat.le_trans (Nat.le_trans (Nat.le_succ _) (Nat.le_succ _)) big, BB.ne, BB.ns⟩⟩
end
end ExF
end PySem
namespace DL
open PySem PySem.Spec PyProof.Rows L2 PySem.ExF
section
variable {X : Cx} {G : Gx} {C B fI : Addr}
def tMkEx (C : Addr) (fns : List Str) (ta : TA) : L2.St → Hp → XK → Prop := fun σ H Q => ta σ H fun vs H1 => vs.length = fns.length ∧ ∀ d, H1 d = none → Q (.ref C) (some d) (upd H1 d (.xd (fns.zip vs)))
theorem pmk_ex {a : Expr} {es : List Expr} {x : Str} {ta : TA} {p pos : Pos} {k : Nat} {fns : List Str} (T : ExC X.K C B fI) (hf : fns.length ≤ 1000) (hmg : X.mg x = some (.ref C)) (hr : Room k X.A) (ha : PA X (a :: es) ta) (fm : List Value → Str → Option Value)
    (made : ∀ {A : Around} {R : Result → Shared → Prop} {s : Shared} {us : List Value}, us.length = fns.length → X.K.In s.heap → s.heap.NoLimit → A.depth + 1 < recursionLimit → (∀ h2 tk e d, Made s.heap h2 e C d (fm us) → R (.ok (.ret (.ref e))) { s with heap := h2, toks := tk }) → codeAny (model X.prog X.w) A (.call (.ref C) ⟨us, []⟩) R s)
    (hfm : ∀ (vs : List V) (us : List Value), Vals vs us → vs.length = fns.length → ∀ f, RelO ((fns.zip vs).lookup f) (fm us f)) (hg : Gl X x := by rfl) (hdb : (x == ("__debug__" : Str)) = false := by decide)
    (he : starEach (a :: es) X.env = (false, eval a X.env) :: starEach es X.env := by rfl) (hpl : (backTo pos (starEach es X.env)).any (·.1) = false := by rfl) : PMk X (.Call (.Name x p) (a :: es) [] pos) (tMkEx C fns ta) := by
  intro pins s σ H Q I h
  refine wpAny_Call_Name_kw (ld_glob I hg hmg ?_ hdb)
  refine PySem.W.callWith_K (h₀ := X.base) I.ok.mod.kin T.kC (thn (ha.run pos pins s σ H _ I h) fun us s1 ⟨vs, H1, I1, r1, hl, q1⟩ => ⟨I1.kIn, ?_⟩) he hpl
  show wpAny _ _ (call (.ref C) us) _ _ _
  have hlim := I1.nolimit
  have hus : us.length = fns.length := by rw [← hl]; exact (Paired.length r1).symm
  obtain ⟨hp, g, dr, tk, os⟩ := s1
  refine wpAny_call (made hus I1.kIn hlim (by have := hr.dp; omega) fun h2 tk2 e d M => ?_)
  show MkP X pins σ Q (.ref e) ⟨h2, g, dr, tk2, os⟩
  obtain ⟨oe, fv, hoe, hc, hd, hdat, h1⟩ := M.obj
  obtain ⟨G2, g1, g2⟩ := restrict h2 fun b => decide (b ≠ e)
  have same : ∀ b, b ≠ e → G2.get? b = h2.get? b := fun b hb => g1 b (decide_eq_true hb)
  have gone : G2.get? e = none := g2 e (by simp)
  have old : ∀ b o, hp.get? b = some o → G2.get? b = some o := fun b o q => (same b (Nat.ne_of_lt (Nat.lt_of_lt_of_le (Heap.lt_size q) M.new))).trans (M.keep b o q)
  have ob : ObjOk X.prog X.w (upd H1 d (.xd (fns.zip vs))) G2 d (.xd (fns.zip vs)) := ⟨_, M.ns.at (fun o q => (same d M.ne).trans q), hfm vs us r1 hl⟩
  have J : Inv X pins σ (upd H1 d (.xd (fns.zip vs))) ⟨G2, g, dr, tk2, os⟩ := I1.laid (t' := tk2) old M.big ob
  refine ⟨e, oe, fv, ⟨G2, g, dr, tk2, os⟩, _, .ref C, some d, rfl, J, fun b o q => ?_, gone, hoe, ⟨hc, hd⟩, hdat, h1, ?_, rfl, I1.bare, raises_own T.exC T.tyC, q1 d (I1.hok.fresh M.big)⟩
  · by_cases hb : b = e
    · rw [hb] at q
      exact absurd (show G2.get? e = some o from q) (by rw [gone]; simp)
    · exact (same b hb).symm.trans q
  · rw [upd_ne (Ne.symm M.ne)]
    exact I1.hok.fresh M.new
@[simp] def sRaise (id n : Nat) (Fs : FA) : FS := fun e s => (Fs e s).flo e fun ds s1 => if ds.length = n then .ex (.tuple (.int id :: ds)) e s1 else .bad
theorem ds_raise (id : Nat) {e : Expr} {pos : Pos} {Fs : FA} {fns : List Str} {n : Nat} (hc : X.calm = true) (tk : Takes X G.W) (hx : G.xc.ex id = some (C, fns)) (hn : fns.length = n) (hm : PMk X e (tMkEx C fns (tA G Fs))) : PS X (.Raise (some e) none pos) (tS G (sRaise id n Fs)) :=
  PS_imp (ps_raise hc tk hm) fun D σ H ⟨w, e, s, I, h⟩ => by
    refine ⟨w, e, s, I, holds_imp (flo_holds h) fun ds s1 h1 w1 vs H1 I1 x1 r1 => ?_⟩
    split at h1
    · rename_i c
      refine ⟨by rw [r1.length, c, hn], fun d hd => ?_⟩
      have I2 := I1.new (o := .xd (fns.zip vs)) hd
      have E2 := I1.newE (o := .xd (fns.zip vs)) hd
      refine h1 w1 σ _ _ _ I2 (x1.trans E2).f ⟨id, ds, C, fns, d, vs, rfl, hx, rfl, rfl, I1.newF hd, ?_, E2.rpl r1⟩
      rw [r1.length, c, hn]
    · exact h1.elim
end
end DL
namespace DL
open PySem PySem.Spec PyProof.Rows L2
end DL
namespace DL
open PySem PySem.Spec PyProof.Rows L2
section
variable {X : Cx} {G : Gx}
@[simp] def gEnumK : List Dat → Sto → Res (List Dat) := fun ds s => match ds with
  | [.list xs, .int k] => if -(2 ^ 62) ≤ k ∧ k < 2 ^ 62 then .ok (pairs (ups k xs.length) xs) s else .bad
  | _ => .bad
theorem IE.wish {w : Wd} {e : Lcs} {s : Sto} {σ : L2.St} {H : Hp} (I : IE G w e s σ H) (W : WX) : IE { G with W := W } w e s σ H := ⟨I.len, I.slot, I.own, I.inj, I.slen, I.cells, I.nd, I.dis, I.beg, I.o0, I.there, I.keep, I.cfresh⟩
theorem IE.unwish {w : Wd} {e : Lcs} {s : Sto} {σ : L2.St} {H : Hp} {W : WX} (I : IE { G with W := W } w e s σ H) : IE G w e s σ H := ⟨I.len, I.slot, I.own, I.inj, I.slen, I.cells, I.nd, I.dis, I.beg, I.o0, I.there, I.keep, I.cfresh⟩
def CatchK (K : PySem.W.Frag) (xc : Xc) (A : Value) (ids : List Nat) : Prop := ∀ id C fns, xc.ex id = some (C, fns) → PySem.W.exmOne K (.ref C) A = some (ids.contains id)
abbrev Catches (X : Cx) (G : Gx) (A : Value) (ids : List Nat) : Prop := CatchK X.K G.xc A ids
@[simp] def exId (x : Dat) : Nat := match x with
  | .tuple (.int i :: _) => i.toNat
  | _ => 0
@[simp] def exFd (x : Dat) (j : Nat) : Option Dat := match x with
  | .tuple (_ :: fds) => fds[j]?
  | _ => none
def sTry (ids : List Nat) (F F2 : FS) : FS := fun e s => match F e s with
  | .ex x e1 s1 => if ids.contains (exId x) then F2 e1 s1 else .ex x e1 s1
  | r => r
theorem ds_try {A : Value} {ids : List Nat} {x : Str} {body suite : List Stmt} {b0 : Stmt} {np pos pos2 : Pos} {F F2 : FS} (hs : X.stack = X.env :: X.outer) (hf : X.env.frame = some X.env.locals) (hc : Names X x A) (ct : Catches X G A ids) (tk : Takes X G.W)
    (hb : ∀ (W : WX) (pn : List (Addr × Obj)) (xe : Value → Shared → Prop), Takes (X.tr pn xe) W → PassesOwn (model X.prog X.w) X.A X.env xe → PSs (X.tr pn xe) body (tS { G with W := W } F))
    (hsu : ∀ (a : Addr) (oe : Obj) (cls : Value) (d : Option Addr) (pn : List (Addr × Obj)), Zc cls d oe → (∃ vs, oe.data = .fields vs) → PSs (X.suite a ((a, oe) :: pn)) (b0 :: suite) (tS G F2)) :
    PS X (.Try body [.ExceptHandler (some (.Name x np)) none (b0 :: suite) pos2] [] [] pos) (tS G (sTry ids F F2)) :=
  PS_imp (ps_try_only (tb := fun W => tS { G with W := W } F) (ts := fun _ _ _ => tS G F2) hs hf hc tk hb hsu) fun D σ H ⟨w, e, s, I, h⟩ => by
    refine ⟨w, e, s, I.wish _, ?_⟩
    unfold sTry at h
    cases q : F e s with
    | bad => rw [q] at h; exact h
    | nx e1 s1 => rw [q] at h; exact fun w' σ' H' J x => h w' σ' H' J.unwish x
    | bk e1 s1 => rw [q] at h; exact fun w' σ' H' J x => h w' σ' H' J.unwish x
    | ct e1 s1 => rw [q] at h; exact fun w' σ' H' J x => h w' σ' H' J.unwish x
    | rt d s1 => rw [q] at h; exact fun w' e' σ' v H' J x => h w' e' σ' v H' J.unwish x
    | ex y e1 s1 =>
      rw [q] at h
      simp only at h
      intro w' σ' H' cls d J x r
      obtain ⟨id, fds, C, fns, dd, vs, r1, r2, r3, r4, r5, r6, r7⟩ := id r
      subst r3
      have hid : exId y = id := by rw [r1]; simp
      rw [hid] at h
      refine ⟨ids.contains id, ct id C fns r2, fun e1' a ha => ?_, fun e1' => ?_⟩
      · rw [if_pos e1'] at h
        exact ⟨w', _, s1, J.unwish, kS_ext x h⟩
      · rw [if_neg (by rw [e1']; decide)] at h
        exact h w' σ' H' _ d J.unwish x r
end
end DL
namespace DL
open PySem PySem.Spec PyProof.Rows L2
section
variable {X : Cx} {G : Gx}
@[simp] def fSplit (Fo Fa : FE) : FE := fun e s => (Fo e s).bind fun o s1 => match o with
  | .str a => (Fa e s1).bind fun t s2 => match t with
    | .str b => if (b.length == 0) = false ∧ a.length + 2 ≤ 16777216 then .ok (.list ((Txt.split a b).map PyData.str)) s2 else .bad
    | _ => .bad
  | _ => .bad
@[simp] def gInt2 : List Dat → Sto → Res Dat := fun ds s => match ds with
  | [.str a] => match PySem.intText? a with
    | some n => if a.length ≤ 640 then .ok (.int n) s else .bad
    | none => .bad
  | _ => gInt ds s
theorem cdInt2 : CallD G (fun xs H Q => ((∃ i, xs = [V.int i] ∧ Q (.int i) H) ∨ ∃ k, xs = [V.bl k] ∧ Q (.int (if k then 1 else 0)) H) ∨ ∃ a n, xs = [.str a] ∧ PySem.intText? a = some n ∧ a.length ≤ 640 ∧ Q (.int n) H) gInt2 := by
  intro w e s σ H xs ds Q I r h
  unfold gInt2 at h
  split at h
  · split at h
    · rename_i n hn
      split at h
      · rename_i c
        obtain ⟨v, rfl, r1⟩ := rpl1 r
        exact .inr ⟨_, n, by rw [rp_str r1], hn, c, flat_ok I h rp_i⟩
      · exact h.elim
    · exact h.elim
  · exact .inl (cdInt w e s σ H xs ds Q I r h)
theorem de_intOf2 {p pos : Pos} {a : Expr} {es : List Expr} {Fs : FA} (hm : X.mg "int" = none) (ha : PA X (a :: es) (tA G Fs)) (hgl : Gl X "int" := by rfl) (he : starEach (a :: es) X.env = (false, eval a X.env) :: starEach es X.env := by rfl) (hpl : (backTo pos (starEach es X.env)).any (·.1) = false := by rfl) :
    PE X (.Call (.Name "int" p) (a :: es) [] pos) (tE G (fCall gInt2 Fs)) := de_callTy (CallR.or call_int1 call_int_str) cdInt2 hm ha (hgl := hgl) (he := he) (hpl := hpl)
@[simp] def sAugAdd (i : Nat) (Fa : FE) : FS := fun e s => match e[i]? with
  | some (.fz a) => (Fa e s).flo e fun b s1 => match a, b with
    | .int m, .int n => .nx (e.set i (.fz (.int (m + n)))) s1
    | .str m, .str n => if m.length + n.length ≤ 16777216 then .nx (e.set i (.fz (.str (m ++ n)))) s1 else .bad
    | _, _ => .bad
  | _ => .bad
@[simp] def sPar3 (i j l : Nat) (Fs : FA) : FS := fun e s => (Fs e s).flo e fun ds s1 => match ds with
  | [d1, d2, d3] => if i < e.length ∧ j < e.length ∧ l < e.length then .nx (((e.set i (.fz d1)).set j (.fz d2)).set l (.fz d3)) s1 else .bad
  | _ => .bad
@[simp] def lcC (n : Nat) (F : FG) (C : FT) (Fe : FE) (e : Lcs) : Nat → Nat → Sto → Res (List Dat)
  | 0, i, s => match s[n]? with
    | some (.ls ds) => if ds.length = i then .ok [] s else .bad
    | _ => .bad
  | m + 1, i, s => match s[n]? with
    | some (.ls ds) => match ds[i]? with
      | some d => (F d e s).noex.bind fun e1 s1 => (C e1 s1).noex.bind fun b s2 => if b then (Fe e1 s2).noex.bind fun y s3 => (lcC n F C Fe e m (i + 1) s3).bind fun ys s4 => .ok (y :: ys) s4 else lcC n F C Fe e m (i + 1) s2
      | none => .bad
    | _ => .bad
@[simp] def fLcC (Fa : FE) (F : FG) (C : FT) (Fe : FE) (vs : List Nat) : FE := fun e s => (Fa e s).bind fun o s1 => match o with
  | .dict [(.int n, .none)] => match s1[n.toNat]? with
    | some (.ls ds) => if decide (ds.length < sizeLine) then (lcC n.toNat F C Fe (wipeE e vs) ds.length 0 s1).bind fun ys s2 => .ok (.list ys) s2 else .bad
    | _ => .bad
  | _ => .bad
end
end DL
namespace DL
open PySem PySem.Spec PyProof.Rows L2
section
variable {X : Cx} {G : Gx}
def cmpOk (a b : Dat) : Bool := SeqAt.shaped a && SeqAt.shaped b && PySem.W.alike a b && !(match a with | .none => true | _ => false)
theorem cmpOk_is {a b : Dat} (h : cmpOk a b = true) : SeqAt.shaped a = true ∧ SeqAt.shaped b = true ∧ PySem.W.alike a b = true ∧ a ≠ .none := by
  unfold cmpOk at h
  rw [Bool.and_eq_true, Bool.and_eq_true, Bool.and_eq_true] at h
  refine ⟨h.1.1.1, h.1.1.2, h.1.2, fun z => ?_⟩
  subst z
  exact absurd h.2 (by simp)
def rCmpD (K : PySem.W.Frag) (f : Dat → Dat → Bool) : R2 := fun x y H Q => ∃ d e, Dp K H x d ∧ Dp K H y e ∧ cmpOk d e = true ∧ Q (.bl (f d e)) H
theorem op_ltD (hu : X.A.units + 64 < cLine) : OpR X (compareOp .Lt) (rCmpD X.K fun d e => PySem.W.dataLt d e) := fun pins s σ H x y v u Q I rx ry ⟨d, e, hd, he, c, q⟩ => by
  obtain ⟨c1, c2, c3, c4⟩ := cmpOk_is c
  obtain ⟨as, r1⟩ := Dp.reads I d x v hd rx
  obtain ⟨bs, r2⟩ := Dp.reads I e y u he ry
  exact PySem.W.lt_data r1 r2 c3 c4 (SeqAt.room_of_shaped c1 hu) ⟨.bl _, H, I, rfl, q⟩
theorem op_gtD (hu : X.A.units + 64 < cLine) : OpR X (compareOp .Gt) (rCmpD X.K fun d e => PySem.W.dataLt e d) := fun pins s σ H x y v u Q I rx ry ⟨d, e, hd, he, c, q⟩ => by
  obtain ⟨c1, c2, c3, c4⟩ := cmpOk_is c
  obtain ⟨as, r1⟩ := Dp.reads I d x v hd rx
  obtain ⟨bs, r2⟩ := Dp.reads I e y u he ry
  exact PySem.W.gt_data r1 r2 c3 c4 (SeqAt.room_of_shaped c1 hu) ⟨.bl _, H, I, rfl, q⟩
theorem op_leD (hu : X.A.units + 64 < cLine) : OpR X (compareOp .LtE) (rCmpD X.K fun d e => !PySem.W.dataLt e d) := fun pins s σ H x y v u Q I rx ry ⟨d, e, hd, he, c, q⟩ => by
  obtain ⟨c1, c2, c3, c4⟩ := cmpOk_is c
  obtain ⟨as, r1⟩ := Dp.reads I d x v hd rx
  obtain ⟨bs, r2⟩ := Dp.reads I e y u he ry
  exact PySem.W.le_data r1 r2 c3 c4 (SeqAt.room_of_shaped c1 hu) ⟨.bl _, H, I, rfl, q⟩
theorem op_geD (hu : X.A.units + 64 < cLine) : OpR X (compareOp .GtE) (rCmpD X.K fun d e => !PySem.W.dataLt d e) := fun pins s σ H x y v u Q I rx ry ⟨d, e, hd, he, c, q⟩ => by
  obtain ⟨c1, c2, c3, c4⟩ := cmpOk_is c
  obtain ⟨as, r1⟩ := Dp.reads I d x v hd rx
  obtain ⟨bs, r2⟩ := Dp.reads I e y u he ry
  exact PySem.W.ge_data r1 r2 c3 c4 (SeqAt.room_of_shaped c1 hu) ⟨.bl _, H, I, rfl, q⟩
@[simp] def gCmp (f : Int → Int → Bool) (g : Dat → Dat → Bool) : Dat → Dat → Sto → Res Dat := fun a b s => match a, b with
  | .int i, .int j => .ok (.bool (f i j)) s
  | a, b => if cmpOk a b then .ok (.bool (g a b)) s else .bad
theorem opCmp {f : Int → Int → Bool} {g : Dat → Dat → Bool} : OpD G (fun x y H Q => rI0 (fun i j => .bl (f i j)) x y H Q ∨ rCmpD G.K g x y H Q) (gCmp f g) := by
  intro w e s σ H x y a b Q I ra rb h
  unfold gCmp at h
  split at h
  · rename_i i j
    exact .inl ⟨i, j, rp_int ra, rp_int rb, flat_ok I h rp_b⟩
  · split at h
    · rename_i c
      obtain ⟨c1, c2, _, _⟩ := cmpOk_is c
      exact .inr ⟨_, _, dp_full c1 ra, dp_full c2 rb, c, flat_ok I h rp_b⟩
    · exact h.elim
abbrev gLt2 : Dat → Dat → Sto → Res Dat := gCmp (fun i j => decide (i < j)) fun d e => PySem.W.dataLt d e
abbrev gLe2 : Dat → Dat → Sto → Res Dat := gCmp (fun i j => decide (i ≤ j)) fun d e => !PySem.W.dataLt e d
abbrev gGt2 : Dat → Dat → Sto → Res Dat := gCmp (fun i j => decide (j < i)) fun d e => PySem.W.dataLt e d
abbrev gGe2 : Dat → Dat → Sto → Res Dat := gCmp (fun i j => decide (j ≤ i)) fun d e => !PySem.W.dataLt d e
section
variable {a b : Expr} {pos : Pos} {Fa Fb : FE}
theorem or_lt2 (hu : X.A.units + 64 < cLine) (hK : X.K = G.K) : OpR X (compareOp .Lt) (fun x y H Q => rI0 (fun i j => .bl (decide (i < j))) x y H Q ∨ rCmpD G.K (fun d e => PySem.W.dataLt d e) x y H Q) := by rw [← hK]; exact op_lt.or (op_ltD hu)
theorem or_le2 (hu : X.A.units + 64 < cLine) (hK : X.K = G.K) : OpR X (compareOp .LtE) (fun x y H Q => rI0 (fun i j => .bl (decide (i ≤ j))) x y H Q ∨ rCmpD G.K (fun d e => !PySem.W.dataLt e d) x y H Q) := by rw [← hK]; exact op_le.or (op_leD hu)
theorem or_gt2 (hu : X.A.units + 64 < cLine) (hK : X.K = G.K) : OpR X (compareOp .Gt) (fun x y H Q => rI0 (fun i j => .bl (decide (j < i))) x y H Q ∨ rCmpD G.K (fun d e => PySem.W.dataLt e d) x y H Q) := by rw [← hK]; exact op_gt.or (op_gtD hu)
theorem or_ge2 (hu : X.A.units + 64 < cLine) (hK : X.K = G.K) : OpR X (compareOp .GtE) (fun x y H Q => rI0 (fun i j => .bl (decide (j ≤ i))) x y H Q ∨ rCmpD G.K (fun d e => !PySem.W.dataLt d e) x y H Q) := by rw [← hK]; exact op_ge.or (op_geD hu)
theorem de_lt2 (hu : X.A.units + 64 < cLine) (hK : X.K = G.K) (ha : PE X a (tE G Fa)) (hb : PE X b (tE G Fb)) : PE X (.Compare a [.Lt] [b] pos) (tE G (fBin gLt2 Fa Fb)) := de_cmp (or_lt2 hu hK) opCmp ha hb
theorem de_le2 (hu : X.A.units + 64 < cLine) (hK : X.K = G.K) (ha : PE X a (tE G Fa)) (hb : PE X b (tE G Fb)) : PE X (.Compare a [.LtE] [b] pos) (tE G (fBin gLe2 Fa Fb)) := de_cmp (or_le2 hu hK) opCmp ha hb
theorem de_gt2 (hu : X.A.units + 64 < cLine) (hK : X.K = G.K) (ha : PE X a (tE G Fa)) (hb : PE X b (tE G Fb)) : PE X (.Compare a [.Gt] [b] pos) (tE G (fBin gGt2 Fa Fb)) := de_cmp (or_gt2 hu hK) opCmp ha hb
theorem dt_lt2 (hu : X.A.units + 64 < cLine) (hK : X.K = G.K) (ha : PE X a (tE G Fa)) (hb : PE X b (tE G Fb)) : PT X (.Compare a [.Lt] [b] pos) (tT G (fB (fBin gLt2 Fa Fb))) := dt_cmp (or_lt2 hu hK) opCmp ha hb
theorem dt_gt2 (hu : X.A.units + 64 < cLine) (hK : X.K = G.K) (ha : PE X a (tE G Fa)) (hb : PE X b (tE G Fb)) : PT X (.Compare a [.Gt] [b] pos) (tT G (fB (fBin gGt2 Fa Fb))) := dt_cmp (or_gt2 hu hK) opCmp ha hb
theorem dt_ge2 (hu : X.A.units + 64 < cLine) (hK : X.K = G.K) (ha : PE X a (tE G Fa)) (hb : PE X b (tE G Fb)) : PT X (.Compare a [.GtE] [b] pos) (tT G (fB (fBin gGe2 Fa Fb))) := dt_cmp (or_ge2 hu hK) opCmp ha hb
end
def insD {β : Type} (le : β → β → Bool) (a : β) : List β → List β
  | [] => [a]
  | b :: r => if le a b then a :: b :: r else b :: insD le a r
def isortL {β : Type} (le : β → β → Bool) : List β → List β
  | [] => []
  | a :: l => insD le a (isortL le l)
theorem insD_mid {β : Type} {le : β → β → Bool} {a : β} : ∀ {l1 l2 : List β}, (∀ b, b ∈ l1 → le a b = false) → (∀ b, b ∈ l2 → le a b = true) → insD le a (l1 ++ l2) = l1 ++ a :: l2
  | [], [], _, _ => rfl
  | [], b :: l2, _, h => by
    simp only [List.nil_append, insD]
    rw [if_pos (h b (by simp))]
  | b :: l1, l2, h, h2 => by
    simp only [List.cons_append, insD]
    rw [if_neg (by rw [h b (by simp)]; decide), insD_mid (fun c hc => h c (List.mem_cons_of_mem _ hc)) h2]
theorem isort_is {β : Type} {le : β → β → Bool} (trans : ∀ a b c, le a b = true → le b c = true → le a c = true) (total : ∀ a b, (le a b || le b a) = true) : ∀ l : List β, l.mergeSort le = isortL le l
  | [] => by simp [isortL]
  | a :: l => by
    obtain ⟨l1, l2, h1, h2, h3⟩ := List.mergeSort_cons (le := le) trans total a l
    have hp := List.pairwise_mergeSort (le := le) trans total (a :: l)
    rw [h1] at hp
    have ha : ∀ b, b ∈ l2 → le a b = true := (List.pairwise_cons.mp (List.pairwise_append.mp hp).2.1).1
    rw [h1, isortL, ← isort_is trans total l, h2, insD_mid (fun b hb => by simpa using h3 b hb) ha]
theorem insD_map {β γ : Type} {le : β → β → Bool} {le' : γ → γ → Bool} {f : β → γ} (h : ∀ a b, le a b = le' (f a) (f b)) (a : β) : ∀ l : List β, (insD le a l).map f = insD le' (f a) (l.map f)
  | [] => rfl
  | b :: r => by
    simp only [insD, List.map_cons]
    rw [← h]
    split
    · rfl
    · rw [List.map_cons, insD_map h a r]
theorem isort_map {β γ : Type} {le : β → β → Bool} {le' : γ → γ → Bool} {f : β → γ} (h : ∀ a b, le a b = le' (f a) (f b)) : ∀ l : List β, (isortL le l).map f = isortL le' (l.map f)
  | [] => rfl
  | a :: l => by rw [isortL, insD_map h, isort_map h l]; rfl
theorem insD_mem {β : Type} {le : β → β → Bool} {a x : β} : ∀ {l : List β}, x ∈ insD le a l → x = a ∨ x ∈ l
  | [], h => by simpa [insD] using h
  | b :: r, h => by
    unfold insD at h
    split at h
    · simpa using h
    · rcases List.mem_cons.mp h with e | h
      · exact .inr (by simp [e])
      · rcases insD_mem h with e | e
        · exact .inl e
        · exact .inr (List.mem_cons_of_mem _ e)
theorem isort_mem {β : Type} {le : β → β → Bool} {x : β} : ∀ {l : List β}, x ∈ isortL le l → x ∈ l
  | [], h => h
  | a :: l, h => by
    rcases insD_mem h with e | e
    · simp [e]
    · exact List.mem_cons_of_mem _ (isort_mem e)
theorem insD_len {β : Type} {le : β → β → Bool} {a : β} : ∀ l : List β, (insD le a l).length = l.length + 1
  | [] => rfl
  | b :: r => by
    unfold insD
    split
    · rfl
    · simp [insD_len r]
theorem isort_len {β : Type} {le : β → β → Bool} : ∀ l : List β, (isortL le l).length = l.length
  | [] => rfl
  | a :: l => by rw [isortL, insD_len, isort_len l]; rfl
def leD (a b : Dat) : Bool := !PySem.W.dataLt b a
def sortOk (ds : List Dat) : Bool := ds.all (fun d => SeqAt.shaped d && ds.all fun d2 => PySem.W.alike d d2) && (ds.all (fun d => match d with | .tuple (_ :: _) => true | _ => false) || ds.all (fun d => match d with | .none => false | .tuple _ => false | _ => true)) && decide (ds.length ≤ 16777216)
theorem sortOk_is {ds : List Dat} (h : sortOk ds = true) : (∀ d, d ∈ ds → SeqAt.shaped d = true) ∧ PySem.W.AllAlike ds ∧ PySem.W.Sortable ds ∧ ds.length ≤ sizeLine := by
  unfold sortOk at h
  rw [Bool.and_eq_true, Bool.and_eq_true, List.all_eq_true, Bool.or_eq_true, List.all_eq_true, List.all_eq_true] at h
  obtain ⟨⟨h1, h2⟩, h3⟩ := h
  refine ⟨fun d hd => (Bool.and_eq_true_iff.mp (h1 d hd)).1, fun d hd d2 hd2 => List.all_eq_true.mp (Bool.and_eq_true_iff.mp (h1 d hd)).2 d2 hd2, ?_, by rw [sizeLine_eq]; exact of_decide_eq_true h3⟩
  rcases h2 with h2 | h2
  · refine .inl fun d hd => ?_
    have := h2 d hd
    split at this
    · exact ⟨_, _, rfl⟩
    · cases this
  · refine .inr fun d hd => ?_
    have := h2 d hd
    split at this
    · cases this
    · cases this
    · rename_i n1 n2
      exact ⟨fun z => n1 z, fun xs z => n2 xs z⟩
@[simp] def gSortD : List Dat → Sto → Res Dat := fun ds s => match ds with
  | [.list xs] => if sortOk xs then .ok (.list (isortL leD xs)) s else .bad
  | _ => .bad
def rSortD (K : PySem.W.Frag) : List V → Hp → VK → Prop := fun vs H Q => ∃ (a : Addr) (xs : List V) (ds : List Dat), vs = [V.ref a] ∧ SqL K H a xs ∧ DpAll K H xs ds ∧ sortOk ds = true ∧
  ∀ ys p, ys = (isortL (fun p q => leD p.2 q.2) (xs.zip ds)).map Prod.fst → H p = none → Q (.ref p) (upd H p (.lst ys))
theorem dpA_len {K : PySem.W.Frag} {H : Hp} : ∀ {xs : List V} {ds : List Dat}, DpAll K H xs ds → xs.length = ds.length
  | _, _, .nil => rfl
  | _, _, .cons _ r => by simp [dpA_len r]
theorem dataLe_tot : PySem.W.TotalLe (PySem.W.dataLe false (fun p : V × Dat => p.2)) := PySem.W.sortLe_total _ _ _
theorem dataLe_is (p q : V × Dat) : PySem.W.dataLe false (fun p : V × Dat => p.2) p q = leD p.2 q.2 := by
  rw [PySem.W.dataLe_eq]
  rfl
theorem each_zip {K : PySem.W.Frag} {pins : List (Addr × Obj)} {σ : L2.St} {H : Hp} {s : Shared} (I : Inv X pins σ H s) : ∀ {xs : List V} {us : List Value} {ds : List Dat}, Vals xs us → DpAll X.K H xs ds →
    PySem.W.EachIs (fun (u : Value) (b : V × Dat) => RelV b.1 u) us (xs.zip ds) ∧ PySem.W.EachIs (fun (u : Value) (b : V × Dat) => ∃ as, Reads s.heap u b.2 as) us (xs.zip ds)
  | [], [], [], _, _ => ⟨.nil, .nil⟩
  | x :: xs, u :: us, d :: ds, r, h => by
    cases r with
    | cons r1 r2 =>
      cases h with
      | cons h1 h2 =>
        obtain ⟨e1, e2⟩ := each_zip (K := K) I r2 h2
        exact ⟨.cons r1 e1, .cons (Dp.reads I d x u h1 r1) e2⟩
  | [], [], _ :: _, _, h => by cases h
  | [], _ :: _, _, r, _ => by cases r
  | _ :: _, [], _, r, _ => by cases r
  | _ :: _, _ :: _, [], _, h => by cases h
theorem vals_each : ∀ {us : List Value} {bs : List (V × Dat)}, PySem.W.EachIs (fun (u : Value) (b : V × Dat) => RelV b.1 u) us bs → Vals (bs.map Prod.fst) us
  | _, _, .nil => .nil
  | _, _, .cons r t => .cons r (vals_each t)
theorem cr_sortD (hu : X.A.units + 80 < cLine) : CallR X (.builtin "sorted") (rSortD X.K) := by
  intro pins s σ H vs us Q I r h
  obtain ⟨a, xs, ds, rfl, hs, hd, ok, q⟩ := h
  obtain ⟨its, rv, hl, hz⟩ := I.list hs
  obtain ⟨u, rfl, ru⟩ := vals1 r
  cases (show u = Value.ref a from ru)
  obtain ⟨s1, s2, s3, s4⟩ := sortOk_is ok
  have em : (xs.zip ds).map (fun p : V × Dat => p.2) = ds := by
    have := List.map_snd_zip (l₁ := xs) (l₂ := ds) (by rw [dpA_len hd]; exact Nat.le_refl _)
    exact this
  obtain ⟨e1, e2⟩ := each_zip (K := X.K) I rv hd
  refine PySem.W.sorted_data (enc := fun p : V × Dat => p.2) (R := fun (u : Value) (b : V × Dat) => RelV b.1 u) hl.isList e1 e2 (by rw [em]; exact s2) (by rw [em]; exact s3) (by rw [List.length_zip, dpA_len hd]; simpa using s4) (fun b hb => ?_) fun out ho eo => ?_
  · have hm : b.2 ∈ ds := by
      rw [← em]
      exact List.mem_map.mpr ⟨b, hb, rfl⟩
    have := SeqAt.depth_of_shaped (s1 _ hm)
    omega
  · rw [isort_is dataLe_tot.trans (fun a b => by rw [Bool.or_eq_true]; exact dataLe_tot.total a b), show PySem.W.dataLe false (fun p : V × Dat => p.2) = (fun p q => leD p.2 q.2) from funext fun p => funext fun q => dataLe_is p q] at eo
    obtain ⟨ep, he'⟩ := PyProof.Rows.sortedAll_at s.heap its out.toArray
    have hv := vals_each eo
    have hlen : ((isortL (fun p q : V × Dat => leD p.2 q.2) (xs.zip ds)).map Prod.fst).length ≤ sizeLine := by
      rw [List.length_map, isort_len, List.length_zip, dpA_len hd]
      simpa using s4
    exact ⟨.ref _, upd H (s.heap.objs.size + 1) (.lst _), I.laid (t' := s.toks) (fun _ _ => PyProof.Rows.sortedAll_old) (Nat.le_succ _) ⟨hlen, out, ep, hv, he'⟩, rfl, q _ _ rfl (I.hok.fresh (Nat.le_succ _))⟩
theorem rpl_pairs {K : PySem.W.Frag} {as : List Addr} {F : Hp} : ∀ {bs : List (V × Dat)}, (∀ b, b ∈ bs → Rp K as F b.2 b.1) → RpL K as F (bs.map Prod.snd) (bs.map Prod.fst)
  | [], _ => RpL.nil
  | b :: bs, h => RpL.cons (h b (by simp)) (rpl_pairs fun c hc => h c (List.mem_cons_of_mem _ hc))
theorem pairs_rpl {K : PySem.W.Frag} {as : List Addr} {F : Hp} : ∀ {ds : List Dat} {vs : List V}, RpL K as F ds vs → ∀ b, b ∈ vs.zip ds → Rp K as F b.2 b.1
  | [], [], _, b, h => by simp at h
  | d :: ds, v :: vs, r, b, h => by
    simp only [RpL] at r
    rcases List.mem_cons.mp (show b ∈ (v, d) :: vs.zip ds from h) with e | h
    · subst e; exact r.1
    · exact pairs_rpl r.2 b h
  | [], _ :: _, h, _, _ => by simp [RpL] at h
  | _ :: _, [], h, _, _ => by simp [RpL] at h
theorem cdSortD : CallD G (rSortD G.K) gSortD := by
  intro w e s σ H xs ds Q I r h
  unfold gSortD at h
  split at h
  · rename_i zs
    split at h
    · rename_i c
      obtain ⟨v, rfl, r1⟩ := rpl1 r
      obtain ⟨p, ys, rfl, hp, rx⟩ := rp_list r1
      obtain ⟨s1, _, _, _⟩ := sortOk_is c
      have hdp : DpAll G.K H ys zs := DpA_mono Fz_sub _ _ (dpA_of zs ys (by
        have go : ∀ l : List Dat, (∀ d, d ∈ l → SeqAt.shaped d = true) → PyData.canLayAll0 l = true := by
          intro l
          induction l with
          | nil => intro _; simp [PyData.canLayAll0]
          | cons d l ih =>
            intro hl
            simp only [PyData.canLayAll0, Bool.and_eq_true]
            exact ⟨SeqAt.canLay_of_shaped (hl d (by simp)), ih fun x hx => hl x (List.mem_cons_of_mem _ hx)⟩
        exact go zs s1) rx)
      refine ⟨p, ys, zs, rfl, .inl (.inl (Fz_sub _ _ hp)), hdp, c, fun out l eo hl => ?_⟩
      subst eo
      refine new_list I ?_ h hl
      have em : (ys.zip zs).map Prod.snd = zs := List.map_snd_zip (l₁ := ys) (l₂ := zs) (by rw [rx.length]; exact Nat.le_refl _)
      have e2 : isortL leD zs = (isortL (fun p q : V × Dat => leD p.2 q.2) (ys.zip zs)).map Prod.snd := by
        rw [isort_map (le' := leD) (fun _ _ => rfl), em]
      rw [e2]
      exact rpl_pairs fun b hb => pairs_rpl rx b (isort_mem hb)
    · exact h.elim
  · exact h.elim
theorem de_sortD {k : Nat} {p pos : Pos} {a : Expr} {es : List Expr} {Fs : FA} (hr : Room k X.A) (hK : X.K = G.K) (hm : X.mg "sorted" = none) (ha : PA X (a :: es) (tA G Fs)) (hgl : Gl X "sorted" := by rfl) (he : starEach (a :: es) X.env = (false, eval a X.env) :: starEach es X.env := by rfl) (hpl : (backTo pos (starEach es X.env)).any (·.1) = false := by rfl) :
    PE X (.Call (.Name "sorted" p) (a :: es) [] pos) (tE G (fCall gSortD Fs)) := de_callB (cr_sortD (by have := hr.un; omega)) (by rw [hK]; exact cdSortD) hm ha (hgl := hgl) (he := he) (hpl := hpl)
end
end DL
namespace DL
open PySem PySem.Spec PyProof.Rows L2
section
variable {X : Cx} {G : Gx}
@[simp] def gStr : List Dat → Sto → Res Dat := fun ds s => match ds with
  | [.int i] => if i.natAbs.log2 < 1920 then .ok (.str (toString i)) s else .bad
  | [.str z] => .ok (.str z) s
  | _ => .bad
theorem cdStr : CallD G (fun xs H Q => (∃ i, xs = [V.int i] ∧ i.natAbs.log2 < 1920 ∧ Q (.str (toString i)) H) ∨ ∃ a, xs = [V.str a] ∧ Q (.str a) H) gStr := by
  intro w e s σ H xs ds Q I r h
  unfold gStr at h
  split at h
  · split at h
    · rename_i c
      obtain ⟨v, rfl, r1⟩ := rpl1 r
      exact .inl ⟨_, by rw [rp_int r1], c, flat_ok I h rp_s⟩
    · exact h.elim
  · obtain ⟨v, rfl, r1⟩ := rpl1 r
    exact .inr ⟨_, by rw [rp_str r1], flat_ok I h rp_s⟩
  · exact h.elim
theorem de_strOf {p pos : Pos} {a : Expr} {es : List Expr} {Fs : FA} (hm : X.mg "str" = none) (ha : PA X (a :: es) (tA G Fs)) (hgl : Gl X "str" := by rfl) (he : starEach (a :: es) X.env = (false, eval a X.env) :: starEach es X.env := by rfl) (hpl : (backTo pos (starEach es X.env)).any (·.1) = false := by rfl) :
    PE X (.Call (.Name "str" p) (a :: es) [] pos) (tE G (fCall gStr Fs)) := de_callTy (CallR.or call_str_int SkE.call_str_str) cdStr hm ha (hgl := hgl) (he := he) (hpl := hpl)
def strRep (x : Str) (n : Int) : Str := if n < 1 then Str.empty else if (n == 1 || x.length == 0) = true then x else ⟨(List.replicate n.toNat x.cps).foldl (· ++ ·) #[]⟩
def rMulS : R2 := fun x y H Q => ∃ z k, x = .str z ∧ y = .int k ∧ 0 ≤ k ∧ k ≤ 1000 ∧ z.length ≤ 1000 ∧ Q (.str (strRep z k)) H
theorem op_mulS : OpR X (binaryOp .Mult) rMulS := fun pins s σ H x y v u Q I rx ry ⟨z, k, ex, ey, h0, h1, hz, q⟩ => by
  subst ex ey
  obtain ⟨t, rfl⟩ := rx
  obtain ⟨t2, rfl⟩ := ry
  have big : ¬ ((z.length : Int) > (2 ^ 63 - 1) / k) ∨ k < 1 := by
    by_cases hk : k < 1
    · exact .inr hk
    · refine .inl ?_
      have hk1 : 1 ≤ k := by omega
      have : (1000 : Int) ≤ (2 ^ 63 - 1) / k := by
        rw [Int.le_ediv_iff_mul_le (by omega)]
        have : 1000 * k ≤ 1000 * 1000 := by omega
        omega
      omega
  refine PySem.P.mul_str (by rw [decide_eq_false (by omega), decide_eq_false (by omega)]; rfl) (fun h _ => ?_) (fun _ _ => ?_) ?_
  · rcases big with b | b
    · exact b
    · exact absurd b h
  · unfold Builtin.Str.tooLong
    refine decide_eq_false ?_
    rw [sizeLine_eq]
    have : z.length * k.toNat ≤ 1000 * 1000 := Nat.mul_le_mul hz (by omega)
    omega
  · have fin : ∀ {w : Str}, w = strRep z k → ∀ t3 tk, EP X pins σ Q (.str w t3) { s with toks := tk } := fun {w} e t3 tk => ⟨.str w, H, I.tok _, ⟨t3, rfl⟩, by rw [e]; exact q⟩
    unfold strRep at fin
    split
    · rename_i c
      rw [if_pos c] at fin
      exact ⟨by decide, fin rfl _ _⟩
    · rename_i c
      rw [if_neg c] at fin
      split
      · rename_i c2
        rw [if_pos c2] at fin
        exact fin rfl t s.toks
      · rename_i c2
        rw [if_neg c2] at fin
        refine ⟨?_, fin rfl _ _⟩
        have size : ∀ (m : Nat) (a : Array Nat), ((List.replicate m z.cps).foldl (· ++ ·) a).size = a.size + m * z.cps.size := by
          intro m
          induction m with
          | zero => intro a; simp
          | succ m ih => intro a; rw [List.replicate_succ, List.foldl_cons, ih, Array.size_append, Nat.succ_mul]; omega
        show ((List.replicate k.toNat z.cps).foldl (· ++ ·) #[]).size ≤ _
        rw [size]
        have e0 : z.cps.size = z.length := rfl
        have : k.toNat * z.cps.size ≤ 1000 * 1000 := Nat.mul_le_mul (by omega) (by omega)
        rw [sizeLine_eq]
        simp
        omega
@[simp] def gMul2 : Dat → Dat → Sto → Res Dat := fun a b s => match a, b with
  | .int i, .int j => if cMul i j then .ok (.int (i * j)) s else .bad
  | .str z, .int k => if 0 ≤ k ∧ k ≤ 1000 ∧ z.length ≤ 1000 then .ok (.str (strRep z k)) s else .bad
  | .list xs, .int k => if -(2 ^ 63) ≤ k ∧ k < 2 ^ 63 ∧ xs.length * k.toNat ≤ 16777216 then .ok (.list (List.replicate k.toNat xs).flatten) s else .bad
  | .tuple xs, .int k => if xs ≠ [] ∧ 2 ≤ k ∧ k ≤ 1000 ∧ xs.length ≤ 1000 then .ok (.tuple (List.replicate k.toNat xs).flatten) s else .bad
  | _, _ => .bad
theorem rpl_rep {K as F} {ds : List Dat} {vs : List V} (r : RpL K as F ds vs) : ∀ n : Nat, RpL K as F (List.replicate n ds).flatten (List.replicate n vs).flatten
  | 0 => RpL.nil
  | n + 1 => by
    rw [List.replicate_succ, List.replicate_succ, List.flatten_cons, List.flatten_cons]
    exact r.append (rpl_rep r n)
theorem opMul2 : OpD G (fun x y H Q => rI CMulW (fun i j => .int (i * j)) x y H Q ∨ rMulS x y H Q ∨ rRep x y H Q ∨ rRepT G.K x y H Q) gMul2 := by
  intro w e s σ H x y a b Q I ra rb h
  unfold gMul2 at h
  split at h
  · rename_i i j
    split at h
    · rename_i c
      exact .inl ⟨i, j, rp_int ra, rp_int rb, show i.natAbs.log2 + j.natAbs.log2 < 1000000 from of_decide_eq_true c, flat_ok I h rp_i⟩
    · exact h.elim
  · rename_i z k
    split at h
    · rename_i c
      exact .inr (.inl ⟨z, k, rp_str ra, rp_int rb, c.1, c.2.1, c.2.2, flat_ok I h rp_s⟩)
    · exact h.elim
  · rename_i zs k
    split at h
    · rename_i c
      obtain ⟨p, xs, rfl, hp, rx⟩ := rp_list ra
      exact .inr (.inr (.inl ⟨p, k, xs, rfl, rp_int rb, Fz_sub _ _ hp, c.1, c.2.1, by rw [rx.length, sizeLine_eq]; exact c.2.2, fun l hl => new_list I (rpl_rep rx _) h hl⟩))
    · exact h.elim
  · rename_i zs k
    split at h
    · rename_i c
      obtain ⟨p, xs, rfl, hp, rx⟩ := rp_tuple ra
      refine .inr (.inr (.inr ⟨p, k, xs, rfl, rp_int rb, sqT_mono Fz_sub hp, fun z => c.1 ?_, c.2.1, c.2.2.1, by rw [rx.length]; exact c.2.2.2, fun l hl => new_tuple I (rpl_rep rx _) h hl⟩))
      subst z
      have := rx.length
      exact List.eq_nil_of_length_eq_zero this.symm
    · exact h.elim
  · exact h.elim
theorem de_mul2 {a b : Expr} {pos : Pos} {Fa Fb : FE} (hK : X.K = G.K) (ha : PE X a (tE G Fa)) (hb : PE X b (tE G Fb)) : PE X (.BinOp a .Mult b pos) (tE G (fBin gMul2 Fa Fb)) := de_bin (op_mulW.or (op_mulS.or (op_rep.or (by rw [← hK]; exact op_repT)))) opMul2 ha hb
end
end DL
namespace DL
open PySem PySem.Spec PyProof.Rows L2
end DL
namespace DL
open PySem PySem.Spec PyProof.Rows L2
abbrev cs (x : Str) : List Nat := x.cps.toList
def free (c : Nat) (x : Str) : Bool := !(cs x).contains c
end DL
namespace DL
open PySem PySem.Spec PyProof.Rows L2
section
variable {X : Cx} {G : Gx}
@[simp] def gMax2 : List Dat → Sto → Res Dat := fun ds s => match ds with
  | [.tuple [.int i, .int j]] => .ok (.int (if i < j then j else i)) s
  | _ => gMax ds s
end
end DL
namespace DL
open PySem PySem.Spec PyProof.Rows L2
mutual
theorem kEq_eq : ∀ (a b : Dat), kEq a b = true → a = b
  | .none, b, h => by cases b <;> simp [kEq] at h ⊢
  | .int i, b, h => by cases b <;> simp [kEq] at h ⊢ <;> exact h
  | .str i, b, h => by cases b <;> simp [kEq] at h ⊢ <;> exact h
  | .tuple xs, b, h => by
    cases b <;> simp [kEq] at h ⊢
    exact kEqL_eq _ _ h
  | .bool _, b, h => by cases b <;> simp [kEq] at h
  | .list _, b, h => by cases b <;> simp [kEq] at h
  | .dict _, b, h => by cases b <;> simp [kEq] at h
theorem kEqL_eq : ∀ (a b : List Dat), kEqL a b = true → a = b
  | [], b, h => by cases b <;> simp [kEqL] at h ⊢
  | x :: xs, b, h => by
    cases b <;> simp [kEqL] at h ⊢
    exact ⟨kEq_eq _ _ h.1, kEqL_eq _ _ h.2⟩
end
mutual
theorem kEq_refl : ∀ (n : Nat) (a : Dat), kOk n a = true → kEq a a = true
  | n, .none, h => by simp [kEq]
  | n, .int i, h => by simp [kEq]
  | n, .str i, h => by simp [kEq]
  | 0, .tuple xs, h => by simp [kOk] at h
  | n + 1, .tuple xs, h => by
    simp only [kOk] at h
    simp only [kEq]
    exact kEqL_refl n xs h
  | n, .bool _, h => by cases n <;> simp [kOk] at h
  | n, .list _, h => by cases n <;> simp [kOk] at h
  | n, .dict _, h => by cases n <;> simp [kOk] at h
theorem kEqL_refl : ∀ (n : Nat) (a : List Dat), kOkL n a = true → kEqL a a = true
  | n, [], h => by simp [kEqL]
  | n, x :: xs, h => by
    simp only [kOkL, Bool.and_eq_true] at h
    simp only [kEqL, Bool.and_eq_true]
    exact ⟨kEq_refl n x h.1, kEqL_refl n xs h.2⟩
end
mutual
theorem toN_inj : ∀ (n m : Nat) (a b : Dat), kOk n a = true → kOk m b = true → toN a = toN b → a = b
  | n, m, .none, b, h, k, e => by cases b <;> cases m <;> simp [kOk, toN] at k e ⊢
  | n, m, .int i, b, h, k, e => by cases b <;> cases m <;> simp [kOk, toN] at k e ⊢ <;> exact e
  | n, m, .str i, b, h, k, e => by cases b <;> cases m <;> simp [kOk, toN] at k e ⊢ <;> exact e
  | 0, m, .tuple xs, b, h, k, e => by simp [kOk] at h
  | n + 1, m, .tuple xs, b, h, k, e => by
    cases b <;> cases m <;> simp [kOk, toN] at h k e ⊢
    exact toNL_inj _ _ _ _ h k e
  | n, m, .bool _, b, h, k, e => by cases n <;> simp [kOk] at h
  | n, m, .list _, b, h, k, e => by cases n <;> simp [kOk] at h
  | n, m, .dict _, b, h, k, e => by cases n <;> simp [kOk] at h
theorem toNL_inj : ∀ (n m : Nat) (a b : List Dat), kOkL n a = true → kOkL m b = true → toNL a = toNL b → a = b
  | n, m, [], b, h, k, e => by cases b <;> simp [toNL] at e ⊢
  | n, m, x :: xs, b, h, k, e => by
    cases b <;> simp [toNL] at e ⊢
    simp only [kOkL, Bool.and_eq_true] at h k
    exact ⟨toN_inj n m _ _ h.1 k.1 e.1, toNL_inj n m _ _ h.2 k.2 e.2⟩
end
theorem kEq_is {n m : Nat} {a b : Dat} (h : kOk n a = true) (k : kOk m b = true) : decide (toN a = toN b) = kEq a b := by
  cases e : kEq a b with
  | true => exact decide_eq_true (by rw [kEq_eq _ _ e])
  | false =>
    refine decide_eq_false fun z => ?_
    have := toN_inj n m a b h k z
    subst this
    rw [kEq_refl n a h] at e
    cases e
mutual
theorem toN_depth : ∀ (n : Nat) (a : Dat), kOk n a = true → (toN a).depth ≤ n
  | n, .none, h => by simp [toN, NestedKey.depth]
  | n, .int i, h => by simp [toN, NestedKey.depth]
  | n, .str i, h => by simp [toN, NestedKey.depth]
  | 0, .tuple xs, h => by simp [kOk] at h
  | n + 1, .tuple xs, h => by
    simp only [kOk] at h
    have := toNL_depth n xs h
    simp only [toN, NestedKey.depth]
    omega
  | n, .bool _, h => by cases n <;> simp [kOk] at h
  | n, .list _, h => by cases n <;> simp [kOk] at h
  | n, .dict _, h => by cases n <;> simp [kOk] at h
theorem toNL_depth : ∀ (n : Nat) (a : List Dat), kOkL n a = true → NestedKey.depthAll (toNL a) ≤ n
  | n, [], h => by simp [toNL, NestedKey.depthAll]
  | n, x :: xs, h => by
    simp only [kOkL, Bool.and_eq_true] at h
    have h1 := toN_depth n x h.1
    have h2 := toNL_depth n xs h.2
    simp only [toNL, NestedKey.depthAll]
    omega
end
mutual
theorem Rp.key {K : PySem.W.Frag} {as : List Addr} {F H : Hp} (sm : Same F H) : ∀ (n : Nat) (d : Dat) (v : V), kOk n d = true → Rp K as F d v → Rp K [] H d v
  | n, .none, v, _, h => by simpa [Rp] using h
  | n, .int i, v, _, h => by simpa [Rp] using h
  | n, .str x, v, _, h => by simpa [Rp] using h
  | 0, .tuple ds, v, k, h => by simp [kOk] at k
  | n + 1, .tuple ds, v, k, h => by
    simp only [kOk] at k
    simp only [Rp] at h ⊢
    obtain ⟨a, xs, e, q, r⟩ := h
    exact ⟨a, xs, e, sqT_mono sm q, RpL.key sm n ds xs k r⟩
  | n, .bool _, v, k, h => by cases n <;> simp [kOk] at k
  | n, .list _, v, k, h => by cases n <;> simp [kOk] at k
  | n, .dict _, v, k, h => by cases n <;> simp [kOk] at k
theorem RpL.key {K : PySem.W.Frag} {as : List Addr} {F H : Hp} (sm : Same F H) : ∀ (n : Nat) (ds : List Dat) (vs : List V), kOkL n ds = true → RpL K as F ds vs → RpL K [] H ds vs
  | n, [], [], _, h => by simp [RpL]
  | n, d :: ds, v :: vs, k, h => by
    simp only [RpL] at h ⊢
    simp only [kOkL, Bool.and_eq_true] at k
    exact ⟨Rp.key sm n d v k.1 h.1, RpL.key sm n ds vs k.2 h.2⟩
  | n, [], _ :: _, _, h => by simp [RpL] at h
  | n, _ :: _, [], _, h => by simp [RpL] at h
end
section
variable {X : Cx} {G : Gx} {pins : List (Addr × Obj)} {σ : L2.St} {H : Hp} {s : Shared}
mutual
theorem key_is (I : L2.Inv X pins σ H s) : ∀ (n : Nat) (d : Dat) (v : V) (u : Value), kOk n d = true → Rp X.K [] H d v → RelV v u → NestedIs s.heap (toN d) u
  | n, .none, v, u, _, h, r => by
    cases rp_none h
    cases (show u = Value.none from r)
    exact .none
  | n, .int i, v, u, _, h, r => by
    cases rp_int h
    obtain ⟨t, rfl⟩ : ∃ t, u = Value.int i t := r
    exact .int i t
  | n, .str x, v, u, _, h, r => by
    cases rp_str h
    obtain ⟨t, rfl⟩ : ∃ t, u = Value.str x t := r
    exact .text x t
  | 0, .tuple ds, v, u, k, h, r => by simp [kOk] at k
  | n + 1, .tuple ds, v, u, k, h, r => by
    simp only [kOk] at k
    obtain ⟨a, xs, rfl, q, rl⟩ := rp_tuple h
    cases (show u = Value.ref a from r)
    obtain ⟨its, rv, ⟨o, e1, e2, m, e3⟩, _⟩ := I.tuple q
    exact .tup e1 e2 e3 (keys_are I n ds xs its k rl rv)
  | n, .bool _, v, u, k, h, r => by cases n <;> simp [kOk] at k
  | n, .list _, v, u, k, h, r => by cases n <;> simp [kOk] at k
  | n, .dict _, v, u, k, h, r => by cases n <;> simp [kOk] at k
theorem keys_are (I : L2.Inv X pins σ H s) : ∀ (n : Nat) (ds : List Dat) (vs : List V) (us : List Value), kOkL n ds = true → RpL X.K [] H ds vs → Vals vs us → NestedAll s.heap (toNL ds) us
  | n, [], [], us, _, h, r => by
    cases r
    exact .nil
  | n, d :: ds, v :: vs, us, k, h, r => by
    simp only [RpL] at h
    simp only [kOkL, Bool.and_eq_true] at k
    cases r with
    | cons r1 r2 => exact .cons (key_is I n d v _ k.1 h.1 r1) (keys_are I n ds vs _ k.2 h.2 r2)
  | n, [], _ :: _, us, _, h, r => by simp [RpL] at h
  | n, _ :: _, [], us, _, h, r => by simp [RpL] at h
end
def getN (kvs : List (Dat × Dat)) (k : Dat) : Option Dat := (kvs.find? fun kv => kEq kv.1 k).map (·.2)
def putN (kvs : List (Dat × Dat)) (k d : Dat) : List (Dat × Dat) := if (kvs.any fun kv => kEq kv.1 k) = true then kvs.map fun kv => if kEq kv.1 k = true then (kv.1, d) else kv else kvs ++ [(k, d)]
theorem find_n {K : PySem.W.Frag} {as : List Addr} {F : Hp} {k : Dat} (hk : kOk 8 k = true) : ∀ {kvs : List (Dat × Dat)} {xs : List (NestedKey × Addr × Value)}, NRel K as F kvs xs →
    (getN kvs k = none ∧ atKey xs (toN k) = none) ∨ ∃ d p v, getN kvs k = some d ∧ atKey xs (toN k) = some p ∧ Rp K as F d v ∧ RelV v p.2
  | [], [], _ => .inl ⟨rfl, rfl⟩
  | kd :: kvs, x :: xs, h => by
    obtain ⟨⟨h0, h1, h2, h3, v, h4, h5⟩, t⟩ := h
    have e : decide (x.1 = toN k) = kEq kd.1 k := by rw [h2]; exact kEq_is h1 hk
    cases c : kEq kd.1 k with
    | true =>
      rw [c] at e
      exact .inr ⟨kd.2, x.2, v, by unfold getN; rw [List.find?_cons_of_pos (p := fun kv : Dat × Dat => kEq kv.1 k) c]; rfl, by unfold atKey; rw [List.find?_cons_of_pos (p := fun y : NestedKey × Addr × Value => decide (y.1 = toN k)) e]; rfl, h4, h5⟩
    | false =>
      rw [c] at e
      have e1 : getN (kd :: kvs) k = getN kvs k := by unfold getN; rw [List.find?_cons_of_neg (p := fun kv : Dat × Dat => kEq kv.1 k) (by simp [c])]
      have e2 : atKey (x :: xs) (toN k) = atKey xs (toN k) := by unfold atKey; rw [List.find?_cons_of_neg (p := fun y : NestedKey × Addr × Value => decide (y.1 = toN k)) (by rw [e]; simp)]
      rw [e1, e2]
      exact find_n hk t
  | [], _ :: _, h => h.elim
  | _ :: _, [], h => h.elim
theorem any_n {kvs : List (Dat × Dat)} {k : Dat} : (kvs.any fun kv => kEq kv.1 k) = (getN kvs k).isSome := by
  unfold getN
  rw [Option.isSome_map]
  induction kvs with
  | nil => rfl
  | cons kd kvs ih =>
    cases c : kEq kd.1 k with
    | true => rw [List.find?_cons_of_pos (p := fun kv : Dat × Dat => kEq kv.1 k) c]; simp [c]
    | false => rw [List.find?_cons_of_neg (p := fun kv : Dat × Dat => kEq kv.1 k) (by simp [c])]; simpa [c] using ih
theorem map_n {K : PySem.W.Frag} {as : List Addr} {F : Hp} {k d : Dat} {v : V} {u : Value} (hk : kOk 8 k = true) (rd : Rp K as F d v) (ru : RelV v u) : ∀ {kvs : List (Dat × Dat)} {xs : List (NestedKey × Addr × Value)}, NRel K as F kvs xs →
    NRel K as F (kvs.map fun kv => if kEq kv.1 k = true then (kv.1, d) else kv) (xs.map (putAt (toN k) u))
  | [], [], _ => trivial
  | kd :: kvs, x :: xs, h => by
    obtain ⟨⟨h0, h1, h2, h3, v', h4, h5⟩, t⟩ := h
    have e : decide (x.1 = toN k) = kEq kd.1 k := by rw [h2]; exact kEq_is h1 hk
    refine ⟨?_, map_n hk rd ru t⟩
    cases c : kEq kd.1 k with
    | true =>
      rw [c] at e
      have e' := of_decide_eq_true e
      simp only [putAt, e', c, ↓reduceIte]
      exact ⟨h0, h1, by rw [← e', h2], h3, v, rd, ru⟩
    | false =>
      rw [c] at e
      have e' := of_decide_eq_false e
      simp only [putAt, if_neg e', c, Bool.false_eq_true, ↓reduceIte]
      exact ⟨h0, h1, h2, h3, v', h4, h5⟩
  | [], _ :: _, h => h.elim
  | _ :: _, [], h => h.elim
theorem snoc_n {K : PySem.W.Frag} {as : List Addr} {F : Hp} {k d : Dat} {v : V} {u : Value} {b : Addr} (h0 : ∃ ds, k = .tuple ds) (hk : kOk 8 k = true) (rk : Rp K as F k (.ref b)) (rd : Rp K as F d v) (ru : RelV v u) : ∀ {kvs : List (Dat × Dat)} {xs : List (NestedKey × Addr × Value)}, NRel K as F kvs xs →
    NRel K as F (kvs ++ [(k, d)]) (xs ++ [(toN k, b, u)])
  | [], [], _ => ⟨⟨h0, hk, rfl, rk, v, rd, ru⟩, trivial⟩
  | kd :: kvs, x :: xs, h => ⟨h.1, snoc_n h0 hk rk rd ru h.2⟩
  | [], _ :: _, h => h.elim
  | _ :: _, [], h => h.elim
theorem put_n {K : PySem.W.Frag} {as : List Addr} {F : Hp} {k d : Dat} {v : V} {u : Value} {b : Addr} (h0 : ∃ ds, k = .tuple ds) (hk : kOk 8 k = true) (rk : Rp K as F k (.ref b)) (rd : Rp K as F d v) (ru : RelV v u) {kvs : List (Dat × Dat)} {xs : List (NestedKey × Addr × Value)} (h : NRel K as F kvs xs) :
    NRel K as F (putN kvs k d) (storedH xs (toN k) b u) := by
  unfold putN storedH
  have e : (kvs.any fun kv => kEq kv.1 k) = (atKey xs (toN k)).isSome := by
    rw [any_n]
    rcases find_n hk h with ⟨e1, e2⟩ | ⟨d', p, v', e1, e2, _, _⟩
    · rw [e1, e2]; rfl
    · rw [e1, e2]; rfl
  rw [e]
  split
  · exact map_n hk rd ru h
  · exact snoc_n h0 hk rk rd ru h
theorem NRel.length {K : PySem.W.Frag} {as : List Addr} {F : Hp} : ∀ {kvs : List (Dat × Dat)} {xs : List (NestedKey × Addr × Value)}, NRel K as F kvs xs → xs.length = kvs.length
  | [], [], _ => rfl
  | kd :: kvs, x :: xs, h => by simp [NRel.length h.2]
  | [], _ :: _, h => h.elim
  | _ :: _, [], h => h.elim
def NKeys (K : PySem.W.Frag) (H : Hp) (xs : List (NestedKey × Addr × Value)) : Prop := ∀ x ∈ xs, ∃ d, kOk 8 d = true ∧ x.1 = toN d ∧ Rp K [] H d (.ref x.2.1)
theorem NRel.keys {K : PySem.W.Frag} {as : List Addr} {F : Hp} (sm : Same F H) : ∀ {kvs : List (Dat × Dat)} {xs : List (NestedKey × Addr × Value)}, NRel K as F kvs xs → NKeys K H xs
  | [], [], _ => fun x hx => by simp at hx
  | kd :: kvs, x :: xs, h => fun y hy => by
    rcases List.mem_cons.mp hy with rfl | hy
    · obtain ⟨⟨h0, h1, h2, h3, _⟩, _⟩ := h
      exact ⟨kd.1, h1, h2, Rp.key sm 8 _ _ h1 h3⟩
    · exact NRel.keys sm h.2 y hy
  | [], _ :: _, h => h.elim
  | _ :: _, [], h => h.elim
def NAt (X : Cx) (H : Hp) (a : Addr) (xs : List (NestedKey × Addr × Value)) : Prop := H a = some (.ext (NDict X.prog X.w a xs)) ∧ NKeys X.K H xs
theorem nat_is (I : L2.Inv X pins σ H s) {a : Addr} {xs : List (NestedKey × Addr × Value)} (h : NAt X H a xs) : (a == sysModules) = false ∧ xs.length ≤ sizeLine ∧ Heap.DictOfH (nestedKind X.prog X.w) s.heap a xs := by
  obtain ⟨⟨h1, h2, o, es, ep, h3, h4, h5, h6, h7⟩, _, _⟩ := I.hok a _ h.1
  refine ⟨h1, h2, o, es, ep, h3, h4, h5, h6, fun x hx => ?_, h7⟩
  obtain ⟨d, k1, k2, k3⟩ := h.2 x hx
  rw [k2]
  exact ⟨key_is I 8 d _ _ k1 k3 rfl, toN_depth 8 d k1⟩
def NK (X : Cx) (H : Hp) (d : Dat) (y : V) : Prop := kOk 8 d = true ∧ (∃ ds, d = .tuple ds) ∧ Rp X.K [] H d y
theorem nk_is (I : L2.Inv X pins σ H s) {d : Dat} {y : V} {u : Value} (h : NK X H d y) (ry : RelV y u) : ∃ b, y = .ref b ∧ u = .ref b ∧ (nestedKind X.prog X.w).is s.heap (toN d) b := by
  obtain ⟨h1, ⟨ds, rfl⟩, h3⟩ := h
  obtain ⟨b, xs, rfl, _, _⟩ := rp_tuple h3
  cases (show u = Value.ref b from ry)
  exact ⟨b, rfl, rfl, key_is I 8 _ _ _ h1 h3 rfl, toN_depth 8 _ h1⟩
theorem roomN {k : Nat} {A : Around} (hr : Room k A) : (nestedKind X.prog X.w).room A.in1 := by
  have := hr.un
  show A.units + 1 + 8 < cLine
  omega
theorem nd_obj {P : Program} {w : World} {H : Hp} {h : Heap} {a : Addr} {xs : List (NestedKey × Addr × Value)} (h1 : (a == sysModules) = false) (h2 : xs.length ≤ sizeLine) (d : Heap.DictOfH (nestedKind P w) h a xs) : ObjOk P w H h a (.ext (NDict P w a xs)) := by
  obtain ⟨o, es, ep, h3, h4, h5, h6, _, h7⟩ := d
  refine ⟨⟨h1, h2, o, es, ep, h3, h4, h5, h6, h7⟩, ⟨o, h3⟩, fun g1 g2 ⟨k1, k2, o', es', ep', k3, k4, k5, k6, k7⟩ kk => ⟨k1, k2, o', es', ep', kk _ k3, k4, k5, k6, k7⟩⟩
theorem len_stored {K : Type} [DecidableEq K] (xs : List (K × Addr × Value)) (k : K) (a : Addr) (v : Value) : (storedH xs k a v).length ≤ xs.length + 1 := by
  unfold storedH
  split <;> simp
def rInN (X : Cx) (f : Bool → Bool) : R2 := fun x y H Q => ∃ a xs d, y = .ref a ∧ NAt X H a xs ∧ NK X H d x ∧ Q (.bl (f (atKey xs (toN d)).isSome)) H
theorem op_inN {k : Nat} (hr : Room k X.A) : OpR X (compareOp .In) (rInN X id) := fun pins s σ H x y v u Q I rx ry ⟨a, xs, d, ey, hn, hk, q⟩ => by
  subst ey
  cases (show u = Value.ref a from ry)
  obtain ⟨b, rfl, rfl, hb⟩ := nk_is I hk rx
  obtain ⟨h1, h2, h3⟩ := nat_is I hn
  exact wpAny_in_heap (roomN hr) hb h1 h3 ⟨.bl _, H, I.tok _, rfl, q⟩
theorem op_notInN {k : Nat} (hr : Room k X.A) : OpR X (compareOp .NotIn) (rInN X (!·)) := fun pins s σ H x y v u Q I rx ry ⟨a, xs, d, ey, hn, hk, q⟩ => by
  subst ey
  cases (show u = Value.ref a from ry)
  obtain ⟨b, rfl, rfl, hb⟩ := nk_is I hk rx
  obtain ⟨h1, h2, h3⟩ := nat_is I hn
  exact wpAny_notIn_heap (roomN hr) hb h1 h3 ⟨.bl _, H, I.tok _, rfl, q⟩
def rIxN (X : Cx) : R2 := fun x y H Q => ∃ a xs d p v, x = .ref a ∧ NAt X H a xs ∧ NK X H d y ∧ atKey xs (toN d) = some p ∧ RelV v p.2 ∧ Q v H
theorem ix_n {k : Nat} (hr : Room k X.A) : IxR X (rIxN X) := by
  intro value slice pins s σ H x y v u Q I rx ry h hs
  obtain ⟨a, xs, d, p, z, rfl, hn, hk, hp, rz, q⟩ := h
  cases (show v = Value.ref a from rx)
  obtain ⟨b, rfl, rfl, hb⟩ := nk_is I hk ry
  obtain ⟨h1, h2, h3⟩ := nat_is I hn
  have ht : s.TypeIs (.ref a) "dict" := by
    obtain ⟨o, es, ep, e1, e2, _⟩ := h3
    exact ⟨o, e1, e2.1⟩
  unfold subscriptTail
  refine wpAny_bind ?_
  rw [getitemInPython_of_ne ht.not_modules]
  refine wpAny_bind (wpAny_specialOf ht PySem.F.slot_dict_getitem.lookup ?_)
  have go : wpAny (model X.prog X.w) X.A (subscripted slice false (.ref a) (.ref b)) (fun r s3 => wpAny (model X.prog X.w) X.A (letTemporaryGo value (.ref a) r >>= fun _ => pure r) (EP X pins σ Q) X.xe s3) X.xe s := by
    rw [hs]
    exact wpAny_operating (wpAny_getItem_heap (roomN hr) hb h3 hp (wpAny_bind (wpAny_letTemporaryGo (wpAny_pure ⟨z, H, I.tok _, rz, q⟩))))
  first
    | exact wpAny_pure (wpAny_bind go)
    | exact wpAny_bind (wpAny_pure (wpAny_bind go))
    | exact wpAny_bind go
def rSetN (X : Cx) : V → V → V → Hp → (Hp → Prop) → Prop := fun o i v H Q => ∃ a xs d b, o = .ref a ∧ NAt X H a xs ∧ NK X H d i ∧ i = .ref b ∧ xs.length < sizeLine ∧ ∀ u, RelV v u → Q (upd H a (.ext (NDict X.prog X.w a (storedH xs (toN d) b u))))
theorem set_n {k : Nat} (hr : Room k X.A) : PSet X (rSetN X) := by
  intro pins s σ H o i v ov iv u Q I ro ri rv h
  obtain ⟨a, xs, d, b, rfl, hn, hk, rfl, hz, q⟩ := h
  cases (show ov = Value.ref a from ro)
  obtain ⟨b', e, rfl, hb⟩ := nk_is I hk ri
  cases e
  obtain ⟨h1, h2, h3⟩ := nat_is I hn
  refine wpAny_setItem_heap (roomN hr) hb h3 (fun h' dd sb => ⟨_, ?_, q u rv⟩) h2
  have he : ∃ q, h'.get? a = some q := by
    obtain ⟨o, _, _, e, _⟩ := dd
    exact ⟨o, e⟩
  exact d_write I (by rw [hn.1]; trivial) sb he (nd_obj h1 (by have := len_stored xs (toN d) b u; omega) dd)
end
end DL
namespace DL
open PySem PySem.Spec PyProof.Rows L2
section
variable {X : Cx} {G : Gx}
section
variable {w : Wd} {e : Lcs} {s : Sto} {σ : L2.St} {H : Hp}
theorem IE.cellN (I : IE G w e s σ H) (hK : X.K = G.K) (hp : G.xc.pw = some (X.prog, X.w)) {n : Nat} {kvs : List (Dat × Dat)} (h : s[n]? = some (.dn kvs)) : ∃ a xs, w.as[n]? = some a ∧ NAt X H a xs ∧ NRel G.K w.as (Fz w H) kvs xs := by
  obtain ⟨a, ho, h1, h2, P, w', xs, e1, rfl, r⟩ := I.cells n _ h
  rw [hp] at e1; cases e1
  exact ⟨a, xs, h1, ⟨h2, by rw [hK]; exact NRel.keys Fz_sub r⟩, r⟩
end
@[simp] def fCellN : FE := fun _ s => .ok (cel s.length) (s ++ [.dn []])
def isTup : Dat → Bool
  | .tuple _ => true
  | _ => false
theorem isTup_is {d : Dat} (h : isTup d = true) : ∃ ds, d = .tuple ds := by
  cases d <;> simp [isTup] at h ⊢
def keyB (d : Dat) : Bool := isTup d && kOk 8 d
theorem keyB_is {d : Dat} (h : keyB d = true) : (∃ ds, d = .tuple ds) ∧ kOk 8 d = true := by
  unfold keyB at h
  rw [Bool.and_eq_true] at h
  exact ⟨isTup_is h.1, h.2⟩
@[simp] def gIx3 : Dat → Dat → Sto → Res Dat := fun a b s => match a with
  | .dict [(.int n, .none)] => match s[n.toNat]? with
    | some (.dn kvs) => if keyB b then (match getN kvs b with
      | some d => .ok d s
      | none => .bad) else .bad
    | _ => gIx2 a b s
  | _ => gIx2 a b s
theorem nk_rp {w : Wd} {H : Hp} (hK : X.K = G.K) {d : Dat} {y : V} (h : keyB d = true) (r : Rp G.K w.as (Fz w H) d y) : NK X H d y :=
  ⟨(keyB_is h).2, (keyB_is h).1, by rw [hK]; exact Rp.key Fz_sub 8 _ _ (keyB_is h).2 r⟩
theorem opIx3 (hK : X.K = G.K) (hp : G.xc.pw = some (X.prog, X.w)) : OpD G (fun x y H Q => (L2.rIx G.K x y H Q ∨ rIxD x y H Q) ∨ rIxN X x y H Q) gIx3 := by
  intro w e s σ H x y a b Q I ra rb h
  unfold gIx3 at h
  split at h
  · rename_i n
    split at h
    · rename_i kvs hs
      split at h
      · rename_i kb
        split at h
        · rename_i d hg
          have ra' : ∃ a, x = .ref a ∧ w.as[n.toNat]? = some a := by simpa [Rp] using ra
          obtain ⟨p, rfl, hpp⟩ := ra'
          obtain ⟨a', xs, e1, e2, e3⟩ := I.cellN hK hp hs
          rw [hpp] at e1; cases e1
          rcases find_n (keyB_is kb).2 e3 with ⟨t1, t2⟩ | ⟨d2, q, v, t1, t2, t3, t4⟩
          · rw [t1] at hg; cases hg
          · rw [t1] at hg; cases hg
            exact .inr ⟨p, xs, b, q, v, rfl, e2, nk_rp hK kb rb, t2, t4, flat_ok I h t3⟩
        · exact h.elim
      · exact h.elim
    · exact .inl (opIx2 w e s σ H x y _ b Q I ra rb h)
  · exact .inl (opIx2 w e s σ H x y _ b Q I ra rb h)
theorem de_ix3 {k : Nat} {a b : Expr} {pos : Pos} {Fa Fb : FE} (hr : Room k X.A) (hK : X.K = G.K) (hp : G.xc.pw = some (X.prog, X.w)) (ha : PE X a (tE G Fa)) (hb : PE X b (tE G Fb)) (hs : PlainIx b := by exact fun _ _ => rfl) : PE X (.Subscript a b pos) (tE G (fBin gIx3 Fa Fb)) :=
  PE_imp (pe_ix ((ix_seq.or (ix_dict (room1 hr))).or (ix_n hr)) ha hb hs) fun _ _ _ h => tOp_of (by rw [hK]; exact opIx3 hK hp) h
def hasN (a b : Dat) (s : Sto) : Option Bool := match b with
  | .dict [(.int n, .none)] => match s[n.toNat]? with
    | some (.dn kvs) => if keyB a then some (getN kvs a).isSome else none
    | _ => none
  | _ => none
def hasL (a b : Dat) (s : Sto) : Option Bool := match b with
  | .dict [(.int n, .none)] => match s[n.toNat]? with
    | some (.ls ds) => if SeqAt.shaped a && SeqAt.shaped (.list ds) then some (ds.any fun z => PyData.eqv z a) else none
    | _ => none
  | _ => none
@[simp] def gIn3 : Dat → Dat → Sto → Res Dat := fun a b s => match hasN a b s with
  | some k => .ok (.bool k) s
  | none => match hasL a b s with
    | some k => .ok (.bool k) s
    | none => gIn2 a b s
@[simp] def gNotIn3 : Dat → Dat → Sto → Res Dat := fun a b s => match hasN a b s with
  | some k => .ok (.bool (!k)) s
  | none => match hasL a b s with
    | some k => .ok (.bool (!k)) s
    | none => gNotIn2 a b s
theorem hasL_rp {w : Wd} {e : Lcs} {s : Sto} {σ : L2.St} {H : Hp} {a b : Dat} {x y : V} {k : Bool} (I : IE G w e s σ H) (ra : Rp G.K w.as (Fz w H) a x) (rb : Rp G.K w.as (Fz w H) b y) (h : hasL a b s = some k) :
    ∃ ds, Dp G.K H x a ∧ Dp G.K H y (.list ds) ∧ SeqAt.shaped a = true ∧ SeqAt.shaped (.list ds) = true ∧ (ds.any fun z => PyData.eqv z a) = k := by
  unfold hasL at h
  split at h
  · rename_i n
    split at h
    · rename_i ds hs
      split at h
      · rename_i c
        cases h
        rw [Bool.and_eq_true] at c
        have rb' : ∃ a, y = .ref a ∧ w.as[n.toNat]? = some a := by simpa [Rp] using rb
        obtain ⟨p, rfl, hpp⟩ := rb'
        obtain ⟨a', vs, e1, e2, e3⟩ := I.cellL hs
        rw [hpp] at e1; cases e1
        have q : DpAll G.K H vs ds := DpA_mono Fz_sub _ _ (dpA_of ds vs (by
          have := SeqAt.canLay_of_shaped c.2
          simpa [PyData.canLay0] using this) e3)
        exact ⟨ds, dp_full c.1 ra, .lst (.inl (.inl e2)) q, c.1, c.2, rfl⟩
      · cases h
    · cases h
  · cases h
theorem hasN_rp {w : Wd} {e : Lcs} {s : Sto} {σ : L2.St} {H : Hp} {a b : Dat} {x y : V} {k : Bool} (hK : X.K = G.K) (hp : G.xc.pw = some (X.prog, X.w)) (I : IE G w e s σ H) (ra : Rp G.K w.as (Fz w H) a x) (rb : Rp G.K w.as (Fz w H) b y) (h : hasN a b s = some k) :
    ∃ p xs, y = .ref p ∧ NAt X H p xs ∧ NK X H a x ∧ (atKey xs (toN a)).isSome = k := by
  unfold hasN at h
  split at h
  · rename_i n
    split at h
    · rename_i kvs hs
      split at h
      · rename_i kb
        cases h
        have rb' : ∃ a, y = .ref a ∧ w.as[n.toNat]? = some a := by simpa [Rp] using rb
        obtain ⟨p, rfl, hpp⟩ := rb'
        obtain ⟨a', xs, e1, e2, e3⟩ := I.cellN hK hp hs
        rw [hpp] at e1; cases e1
        refine ⟨p, xs, rfl, e2, nk_rp hK kb ra, ?_⟩
        rcases find_n (keyB_is kb).2 e3 with ⟨t1, t2⟩ | ⟨d2, q, v, t1, t2, t3, t4⟩
        · rw [t1, t2]; rfl
        · rw [t1, t2]; rfl
      · cases h
    · cases h
  · cases h
theorem opIn3 (hK : X.K = G.K) (hp : G.xc.pw = some (X.prog, X.w)) : OpD G (fun x y H Q => (rIn3 G.K x y H Q ∨ rInDk x y H Q) ∨ rInN X id x y H Q) gIn3 := by
  intro w e s σ H x y a b Q I ra rb h
  unfold gIn3 at h
  split at h
  · rename_i k hk
    obtain ⟨p, xs, e1, e2, e3, e4⟩ := hasN_rp hK hp I ra rb hk
    exact .inr ⟨p, xs, a, e1, e2, e3, by rw [e4]; exact flat_ok I h rp_b⟩
  · split at h
    · rename_i k hk
      obtain ⟨ds, e1, e2, e3, e4, e5⟩ := hasL_rp I ra rb hk
      exact .inl (.inl (.inl ⟨a, ds, e1, e2, e3, e4, by rw [e5]; exact flat_ok I h rp_b⟩))
    · exact .inl (opIn2 w e s σ H x y a b Q I ra rb h)
theorem opNotIn3 (hK : X.K = G.K) (hp : G.xc.pw = some (X.prog, X.w)) : OpD G (fun x y H Q => (rNotIn3 G.K x y H Q ∨ rNotInDk x y H Q) ∨ rInN X (!·) x y H Q) gNotIn3 := by
  intro w e s σ H x y a b Q I ra rb h
  unfold gNotIn3 at h
  split at h
  · rename_i k hk
    obtain ⟨p, xs, e1, e2, e3, e4⟩ := hasN_rp hK hp I ra rb hk
    exact .inr ⟨p, xs, a, e1, e2, e3, by rw [e4]; exact flat_ok I h rp_b⟩
  · split at h
    · rename_i k hk
      obtain ⟨ds, e1, e2, e3, e4, e5⟩ := hasL_rp I ra rb hk
      exact .inl (.inl (.inl ⟨a, ds, e1, e2, e3, e4, by rw [e5]; exact flat_ok I h rp_b⟩))
    · exact .inl (opNotIn2 w e s σ H x y a b Q I ra rb h)
theorem op_in5 {k : Nat} (hr : Room k X.A) (hK : X.K = G.K) : OpR X (compareOp .In) (fun x y H Q => (rIn3 G.K x y H Q ∨ rInDk x y H Q) ∨ rInN X id x y H Q) := (op_in4 hr hK).or (op_inN hr)
theorem op_notIn5 {k : Nat} (hr : Room k X.A) (hK : X.K = G.K) : OpR X (compareOp .NotIn) (fun x y H Q => (rNotIn3 G.K x y H Q ∨ rNotInDk x y H Q) ∨ rInN X (!·) x y H Q) := (op_notIn4 hr hK).or (op_notInN hr)
section
variable {a b : Expr} {pos : Pos} {Fa Fb : FE} {k : Nat}
theorem de_in3 (hr : Room k X.A) (hK : X.K = G.K) (hp : G.xc.pw = some (X.prog, X.w)) (ha : PE X a (tE G Fa)) (hb : PE X b (tE G Fb)) (hm : behindInMarks .In b = false := by with_unfolding_all rfl) : PE X (.Compare a [.In] [b] pos) (tE G (fBin gIn3 Fa Fb)) := de_cmp (op_in5 hr hK) (opIn3 hK hp) ha hb hm
theorem dt_in3 (hr : Room k X.A) (hK : X.K = G.K) (hp : G.xc.pw = some (X.prog, X.w)) (ha : PE X a (tE G Fa)) (hb : PE X b (tE G Fb)) (hm : behindInMarks .In b = false := by with_unfolding_all rfl) : PT X (.Compare a [.In] [b] pos) (tT G (fB (fBin gIn3 Fa Fb))) := dt_cmp (op_in5 hr hK) (opIn3 hK hp) ha hb hm
theorem dt_notIn3 (hr : Room k X.A) (hK : X.K = G.K) (hp : G.xc.pw = some (X.prog, X.w)) (ha : PE X a (tE G Fa)) (hb : PE X b (tE G Fb)) (hm : behindInMarks .NotIn b = false := by with_unfolding_all rfl) : PT X (.Compare a [.NotIn] [b] pos) (tT G (fB (fBin gNotIn3 Fa Fb))) := dt_cmp (op_notIn5 hr hK) (opNotIn3 hK hp) ha hb hm
end
theorem set_all {k : Nat} (hr : Room k X.A) : PSet X (fun o i v H Q => (rSetL o i v H Q ∨ rSetD 0 o i v H Q) ∨ rSetN X o i v H Q) := by
  intro pins s σ H o i v ov iv u Q I ro ri rv h
  rcases h with h | h
  · exact set_any (room1 hr) pins s σ H o i v ov iv u Q I ro ri rv h
  · exact set_n hr pins s σ H o i v ov iv u Q I ro ri rv h
def putC (o k d : Dat) (s : Sto) : Option Sto := match o with
  | .dict [(.int n, .none)] => match s[n.toNat]? with
    | some (.ls ds) => match k with
      | .int j => match ixN ds.length j with
        | some m => some (s.set n.toNat (.ls (ds.set m d)))
        | none => none
      | _ => none
    | some (.dk kvs) => match keyOf k with
      | some z => if kvs.length < sizeLine then some (s.set n.toNat (.dk (putD kvs z d))) else none
      | none => none
    | some (.dn kvs) => if keyB k = true then (if kvs.length < sizeLine then some (s.set n.toNat (.dn (putN kvs k d))) else none) else none
    | _ => none
  | _ => none
theorem putC_is {w : Wd} {e : Lcs} {s s' : Sto} {σ : L2.St} {H : Hp} {o k d : Dat} {ov kv dv : V} (hK : X.K = G.K) (hp : G.xc.pw = some (X.prog, X.w)) (I : IE G w e s σ H) (ro : Rp G.K w.as (Fz w H) o ov) (rk : Rp G.K w.as (Fz w H) k kv) (rd : Rp G.K w.as (Fz w H) d dv) (h : putC o k d s = some s') (Q : Hp → Prop)
    (q : ∀ H', IE G w e s' σ H' → EExt w H w H' → Q H') : (rSetL ov kv dv H Q ∨ rSetD 0 ov kv dv H Q) ∨ rSetN X ov kv dv H Q := by
  unfold putC at h
  split at h
  · rename_i n
    have ro' : ∃ a, ov = .ref a ∧ w.as[n.toNat]? = some a := by simpa [Rp] using ro
    obtain ⟨p, rfl, hpp⟩ := ro'
    have ext : ∀ {ho : HO}, EExt w H w (upd H p ho) := ⟨.refl _, by rw [Fz_mem (List.mem_of_getElem? hpp)]; exact .refl _, rfl, fun a ha => upd_ne fun (z : a = p) => I.dis a (by rw [z]; exact List.mem_of_getElem? hpp) ha⟩
    split at h
    · rename_i ds hds
      split at h
      · rename_i j
        split at h
        · rename_i m hm
          cases h
          obtain ⟨a', vs, e1, e2, e3⟩ := I.cellL hds
          rw [hpp] at e1; cases e1
          exact .inl (.inl ⟨p, vs, j, m, rfl, rp_int rk, e2, by rw [e3.length]; exact hm, q _ (I.writeCell hpp (cr_ls (e3.set m rd))) ext⟩)
        · cases h
      · cases h
    · rename_i kvs hds
      split at h
      · rename_i z hz
        split at h
        · rename_i cl
          cases h
          obtain ⟨a', vs, e1, e2, e3⟩ := I.cellD hds
          rw [hpp] at e1; cases e1
          obtain ⟨vs', t1, t2⟩ := put_rp (k := z) rd e3
          refine .inl (.inr ⟨p, _, rfl, .inl ⟨_, z, e2, key_rp rk hz, ?_, rfl⟩, ?_⟩)
          · have hl : vs.length = kvs.length := by rw [e3.length, List.length_map]
            simpa [zipK, hl] using cl
          · rw [t1]
            exact q _ (I.writeCell (ds := .dk (putD kvs z d)) hpp ⟨vs', rfl, t2⟩) ext
        · cases h
      · cases h
    · rename_i kvs hds
      split at h
      · rename_i kb
        split at h
        · rename_i cl
          cases h
          obtain ⟨a', xs, e1, e2, e3⟩ := I.cellN hK hp hds
          rw [hpp] at e1; cases e1
          obtain ⟨k0, k1⟩ := keyB_is kb
          obtain ⟨zs, rfl⟩ := k0
          obtain ⟨b, us, rfl, hb, rb⟩ := rp_tuple rk
          exact .inr ⟨p, xs, .tuple zs, b, rfl, e2, nk_rp hK kb rk, rfl, by rw [e3.length]; exact cl, fun u ru =>
            q _ (I.writeCell (ds := .dn (putN kvs (.tuple zs) d)) hpp ⟨_, _, _, hp, rfl, put_n ⟨zs, rfl⟩ k1 rk rd ru e3⟩) ext⟩
        · cases h
      · cases h
    · cases h
  · cases h
@[simp] def gItemT (Fo Fi : FE) : FG := fun d e s => (Fo e s).noex.bind fun o s2 => (Fi e s2).noex.bind fun k s3 => match putC o k d s3 with
  | some s4 => .ok e s4
  | none => .bad
@[simp] def sItem3 (Fo Fi Fv : FE) : FS := fun e s => (Fv e s).flo e fun d s1 => (Fo e s1).flo e fun o s2 => (Fi e s2).flo e fun k s3 => match putC o k d s3 with
  | some s4 => .nx e s4
  | none => .bad
theorem ds_item3 {k : Nat} {o i v : Expr} {pos p2 : Pos} {Fo Fi Fv : FE} (hr : Room k X.A) (hK : X.K = G.K) (hp : G.xc.pw = some (X.prog, X.w)) (hv : PE X v (tE G Fv)) (ho : PE X o (tE G Fo)) (hi : PE X i (tE G Fi)) (ha : ∀ u, assign (.Subscript o i p2) X.env u = (do
      let ov ← holding [u] (eval o X.env)
      let iv ← holding [u, ov] (eval i X.env)
      standAt p2
      holding [u, ov, iv] (setItem ov iv u)
      release [u, ov, iv] []) := by intro _; rfl) (hs : swapsWithSole [.Subscript o i p2] v pos.line X.env = pure false := by rfl) (hw : swappedStores [.Subscript o i p2] v X.env = pure none := by rfl)
    (h1 : (assignEach [.Subscript o i p2] X.env).map (·.2) = [assign (.Subscript o i p2) X.env] := by rfl) : PS X (.Assign [.Subscript o i p2] v pos) (tS G (sItem3 Fo Fi Fv)) :=
  PS_imp (ps_asg hv (pg_sub ho hi (set_all hr) ha) hs hw h1) fun D σ H ⟨w, e, s, I, h⟩ => by
    refine ⟨w, e, s, I, holds_imp (flo_holds h) fun d s1 h1 w1 dv H1 I1 x1 r1 => ?_⟩
    refine ⟨w1, e, s1, I1, holds_imp (flo_holds h1) fun ov s2 h2 w2 ovv H2 I2 x2 r2 => ?_⟩
    refine ⟨w2, e, s2, I2, holds_imp (flo_holds h2) fun k s3 h3 w3 kv H3 I3 x3 r3 => ?_⟩
    split at h3
    · rename_i s4 hc
      exact putC_is hK hp I3 (x3.rp r2) r3 ((x2.trans x3).rp r1) hc _ fun H' I' x' => h3 w3 σ _ I' ((x1.trans (x2.trans x3)).trans x').f
    · exact h3.elim
end
end DL
namespace DL
open PySem PySem.Spec PyProof.Rows L2
section
variable {X : Cx} {G : Gx}
@[simp] def fCellLc (Fi : FA) (F : FG) (C : FT) (Fe : FE) (vs : List Nat) : FE := fun e s => (Fi e s).bind fun ds s1 => if decide (ds.length < sizeLine) then (lcL F C Fe (wipeE e vs) ds s1).bind fun ys s2 => .ok (cel s2.length) (s2 ++ [.ls ys]) else .bad
@[simp] def dcL (F : FG) (C : FT) (Fk Fv : FE) (e : Lcs) : List Dat → List (Key × Dat) → Sto → Res (List (Key × Dat))
  | [], acc, s => .ok acc s
  | d :: ds, acc, s => (F d e s).noex.bind fun e1 s1 => (C e1 s1).noex.bind fun b s2 => if b then (Fk e1 s2).noex.bind fun k s3 => (Fv e1 s3).noex.bind fun v s4 => (match keyOf k with
    | some z => if acc.length < sizeLine then dcL F C Fk Fv e ds (putD acc z v) s4 else .bad
    | none => .bad) else dcL F C Fk Fv e ds acc s2
@[simp] def fCellDc (Fi : FA) (F : FG) (C : FT) (Fk Fv : FE) (vs : List Nat) : FE := fun e s => (Fi e s).bind fun ds s1 => if decide (ds.length < sizeLine) then (dcL F C Fk Fv (wipeE e vs) ds [] s1).bind fun ys s2 => .ok (cel s2.length) (s2 ++ [.dk ys]) else .bad
end
end DL
namespace DL
open PySem PySem.Spec PyProof.Rows L2
section
variable {X : Cx} {G : Gx}
section
variable {w : Wd} {e : Lcs} {s : Sto} {σ : L2.St} {H : Hp}
theorem rp_celL (I : IE G w e s σ H) {n : Int} {v : V} {ds : List Dat} (r : Rp G.K w.as (Fz w H) (.dict [(.int n, .none)]) v) (h : s[n.toNat]? = some (.ls ds)) : ∃ p vs, v = .ref p ∧ w.as[n.toNat]? = some p ∧ H p = some (.lst vs) ∧ RpL G.K w.as (Fz w H) ds vs := by
  have r' : ∃ a, v = .ref a ∧ w.as[n.toNat]? = some a := by simpa [Rp] using r
  obtain ⟨p, rfl, hp⟩ := r'
  obtain ⟨a', vs, e1, e2, e3⟩ := I.cellL h
  rw [hp] at e1; cases e1
  exact ⟨p, vs, rfl, hp, e2, e3⟩
end
@[simp] def gRepC : Dat → Dat → Sto → Res (List Dat) := fun a b s => match a, b with
  | .list zs, .int k => if -(2 ^ 63) ≤ k ∧ k < 2 ^ 63 ∧ zs.length * k.toNat ≤ 16777216 then .ok (List.replicate k.toNat zs).flatten s else .bad
  | _, _ => .bad
@[simp] def fCellRep (Fa Fb : FE) : FE := fun e s => (Fa e s).bind fun x s1 => (Fb e s1).bind fun y s2 => (gRepC x y s2).bind fun ds s3 => .ok (cel s3.length) (s3 ++ [.ls ds])
@[simp] def nRep (Fa Fb : FE) : FA := fun e s => (Fa e s).bind fun x s1 => (Fb e s1).bind fun y s2 => gRepC x y s2
@[simp] def fCellOne (Fk Fv : FE) : FE := fun e s => (Fk e s).noex.bind fun k s1 => (Fv e s1).noex.bind fun d s2 => match keyOf k with
  | some z => .ok (cel s2.length) (s2 ++ [.dk [(z, d)]])
  | none => .bad
@[simp] def fPopC (Fo : FE) : FE := fun e s => (Fo e s).bind fun o s1 => match o with
  | .dict [(.int n, .none)] => match s1[n.toNat]? with
    | some (.ls ds) => match ds[ds.length - 1]? with
      | some d => .ok d (s1.set n.toNat (.ls ds.dropLast))
      | none => .bad
    | _ => .bad
  | _ => .bad
theorem RpL.dropLast {K : PySem.W.Frag} {as : List Addr} {F : Hp} {ds : List Dat} {vs : List V} (r : RpL K as F ds vs) : RpL K as F ds.dropLast vs.dropLast := by
  rw [List.dropLast_eq_take, List.dropLast_eq_take, r.length]
  exact r.take _
def seen (d : Dat) (s : Sto) : Dat := match d with
  | .dict [(.int n, .none)] => match s[n.toNat]? with
    | some (.ls ds) => .list ds
    | _ => d
  | _ => d
@[simp] def gEq2 : Dat → Dat → Sto → Res Dat := fun a b s => gEq (seen a s) (seen b s) s
@[simp] def gNe2 : Dat → Dat → Sto → Res Dat := fun a b s => gNe (seen a s) (seen b s) s
@[simp] def gLstOf2 : List Dat → Sto → Res Dat := fun ds s => match ds with
  | [.dict [(.int n, .none)]] => match s[n.toNat]? with
    | some (.ls xs) => .ok (.list xs) s
    | _ => .bad
  | _ => gLstOf ds s
theorem cdLst2 : CallD G (fun xs H Q => ∃ p ys, xs = [V.ref p] ∧ (SqL G.K H p ys ∨ SqT G.K H p ys) ∧ ∀ l, H l = none → Q (.ref l) (upd H l (.lst ys))) gLstOf2 := by
  intro w e s σ H xs ds Q I r h
  unfold gLstOf2 at h
  split at h
  · rename_i n
    split at h
    · rename_i ys hds
      obtain ⟨v, rfl, r1⟩ := rpl1 r
      obtain ⟨p, vs, rfl, hp, hH, rl⟩ := rp_celL I r1 hds
      exact ⟨p, vs, rfl, .inl (.inl (.inl hH)), fun l hl => new_list I rl h hl⟩
    · exact h.elim
  · exact cdLst w e s σ H xs ds Q I r h
theorem de_lstOf2 {p pos : Pos} {a : Expr} {es : List Expr} {Fs : FA} (hK : X.K = G.K) (hm : X.mg "list" = none) (ha : PA X (a :: es) (tA G Fs)) (hgl : Gl X "list" := by rfl) (he : starEach (a :: es) X.env = (false, eval a X.env) :: starEach es X.env := by rfl) (hpl : (backTo pos (starEach es X.env)).any (·.1) = false := by rfl) :
    PE X (.Call (.Name "list" p) (a :: es) [] pos) (tE G (fCall gLstOf2 Fs)) := de_callTy call_list_of (by rw [hK]; exact cdLst2) hm ha (hgl := hgl) (he := he) (hpl := hpl)
def firstAt (d : Dat) : List Dat → Nat → Option Nat
  | [], _ => none
  | z :: zs, n => if PyData.eqv z d then some n else firstAt d zs (n + 1)
@[simp] def fIndex (Fo Fa : FE) : FE := fun e s => (Fo e s).bind fun o s1 => match o with
  | .list ds => (Fa e s1).bind fun d s2 => if SeqAt.shaped (.list ds) && SeqAt.shaped d then (match firstAt d ds 0 with
    | some j => .ok (.int j) s2
    | none => .bad) else .bad
  | _ => .bad
end
end DL
namespace DL
open PySem PySem.Spec PyProof.Rows L2
section
variable {X : Cx} {G : Gx}
def prOf : Dat → Option (Key × Dat)
  | .tuple [k, d] => (keyOf k).map fun z => (z, d)
  | _ => none
def prsOf : List Dat → Option (List (Key × Dat))
  | [] => some []
  | d :: ds => match prOf d, prsOf ds with
    | some p, some ps => some (p :: ps)
    | _, _ => none
def mergeD (acc more : List (Key × Dat)) : List (Key × Dat) := more.foldl (fun a kv => putD a kv.1 kv.2) acc
@[simp] def fDictOf (Fs : FA) : FE := fun e s => (Fs e s).bind fun ds s1 => match ds with
  | [.list xs] => match prsOf xs with
    | some kvs => .ok (cel s1.length) (s1 ++ [.dk (mergeD [] kvs)])
    | none => .bad
  | _ => .bad
@[simp] def fGetD (Fo Fk Fx : FE) : FE := fun e s => (Fo e s).bind fun o s1 => match o with
  | .dict [(.int n, .none)] => match s1[n.toNat]? with
    | some (.dk _) => (Fk e s1).bind fun k s2 => (Fx e s2).bind fun x s3 => match s3[n.toNat]? with
      | some (.dk kvs) => match keyOf k with
        | some z => .ok ((getK kvs z).getD x) s3
        | none => .bad
      | _ => .bad
    | _ => .bad
  | _ => .bad
end
end DL
namespace L2
open PySem PySem.Spec PyProof.Rows
end L2
namespace L2
open PySem PySem.Spec PyProof.Rows
end L2
namespace DL
open PySem PySem.Spec PyProof.Rows L2
section
variable {X : Cx} {G : Gx}
@[simp] def lc3L (F : FG) (C : FT) (Fj : FA) (F2 : FG) (C2 : FT) (Fk : FA) (F3 : FG) (C3 : FT) (Fe : FE) (vs1 vs2 : List Nat) (e : Lcs) : List Dat → Sto → Res (List Dat)
  | [], s => .ok [] s
  | d :: ds, s => (F d e s).noex.bind fun e1 s1 => (C e1 s1).noex.bind fun b s2 => if b then (Fj e1 s2).noex.bind fun es s3 => (lc2L F2 C2 Fk F3 C3 Fe vs2 (wipeE (stripE e1) vs1) es s3).bind fun ys s4 => (lc3L F C Fj F2 C2 Fk F3 C3 Fe vs1 vs2 e ds s4).bind fun zs s5 => .ok (ys ++ zs) s5 else lc3L F C Fj F2 C2 Fk F3 C3 Fe vs1 vs2 e ds s2
@[simp] def fLc3 (Fi : FA) (F : FG) (C : FT) (Fj : FA) (F2 : FG) (C2 : FT) (Fk : FA) (F3 : FG) (C3 : FT) (Fe : FE) (vs vs1 vs2 : List Nat) : FE := fun e s => (Fi e s).bind fun ds s1 => (lc3L F C Fj F2 C2 Fk F3 C3 Fe vs1 vs2 (wipeE e vs) ds s1).bind fun ys s2 => if decide (ys.length ≤ sizeLine) then .ok (.list ys) s2 else .bad
end
end DL
namespace DL
open PySem PySem.Spec PyProof.Rows L2
section
variable {X : Cx} {G : Gx}
@[simp] def sExtendC (Fo Fa : FE) : FS := fun e s => (Fo e s).flo e fun o s1 => match o with
  | .dict [(.int n, .none)] => match s1[n.toNat]? with
    | some (.ls _) => (Fa e s1).flo e fun d s2 => match d with
      | .list ys => match s2[n.toNat]? with
        | some (.ls ds) => if ds.length + ys.length ≤ sizeLine then .nx e (s2.set n.toNat (.ls (ds ++ ys))) else .bad
        | _ => .bad
      | _ => .bad
    | _ => .bad
  | _ => .bad
end
end DL
namespace DL
open PySem PySem.Spec PyProof.Rows L2
def SqA (K : PySem.W.Frag) (H : Hp) (t : Bool) (a : Addr) (xs : List V) : Prop := match t with
  | true => SqT K H a xs
  | false => SqL K H a xs
def IterA (h : Heap) (t : Bool) (it a : Addr) (i : Nat) : Prop := match t with
  | true => h.IsTupleIter it a i
  | false => h.IsListIter it a i
def IsA (h : Heap) (t : Bool) (a : Addr) (items : Array Value) : Prop := match t with
  | true => h.IsTuple a items
  | false => h.IsList a items
def oA (t : Bool) (a : Addr) : Obj := match t with
  | true => { cls := .type "tuple_iterator", data := .fields #[.ref a, .int 0 0] }
  | false => { cls := .type "list_iterator", data := .fields #[.ref a, .int 0 0] }
theorem beginsA (t : Bool) (a : Addr) (items : Array Value) : Begins (.ref a) (oA t a) fun h => IsA h t a items := by
  cases t
  · exact begins_list a items
  · exact begins_tuple a items
theorem iterA0 {h : Heap} {t : Bool} {it a : Addr} (g : h.get? it = some (oA t a)) : IterA h t it a 0 := by
  cases t
  · exact ⟨_, g, rfl, rfl⟩
  · exact ⟨_, g, rfl, rfl⟩
theorem iterA_at {h h' : Heap} {t : Bool} {it a : Addr} {i : Nat} (g : IterA h t it a i) (k : ∀ o, h.get? it = some o → h'.get? it = some o) : IterA h' t it a i := by
  cases t
  · obtain ⟨o, e, r⟩ := g; exact ⟨o, k o e, r⟩
  · obtain ⟨o, e, r⟩ := g; exact ⟨o, k o e, r⟩
theorem iterA_obj {h : Heap} {t : Bool} {it a : Addr} {i : Nat} (g : IterA h t it a i) : ∃ o, h.get? it = some o ∧ ∀ v, o.data ≠ .cell v := by
  cases t
  · obtain ⟨o, e, _, d⟩ := g; exact ⟨o, e, fun v q => by rw [d] at q; cases q⟩
  · obtain ⟨o, e, _, d⟩ := g; exact ⟨o, e, fun v q => by rw [d] at q; cases q⟩
section
variable {X : Cx} {pins : List (Addr × Obj)} {σ : L2.St} {H : Hp} {s : Shared}
theorem invA (I : L2.Inv X pins σ H s) {t : Bool} {a : Addr} {xs : List V} (h : SqA X.K H t a xs) : ∃ its, Vals xs its ∧ IsA s.heap t a its.toArray ∧ a < s.heap.objs.size := by
  cases t
  · obtain ⟨its, rv, p, _⟩ := I.list h
    refine ⟨its, rv, p.isList, ?_⟩
    obtain ⟨_, q, _⟩ := p.isList
    exact Heap.lt_size q
  · obtain ⟨its, rv, p, _⟩ := I.tuple h
    have p' : Heap.IsTuple s.heap a its.toArray := p
    refine ⟨its, rv, p', ?_⟩
    obtain ⟨_, q, _⟩ := p'
    exact Heap.lt_size q
theorem injA (I : L2.Inv X pins σ H s) {t : Bool} {a : Addr} {xs ys : List V} (h : SqA X.K H t a xs) (k : SqA X.K H t a ys) : xs = ys := by
  cases t
  · exact I.list_inj h k
  · exact I.tuple_inj h k
end
theorem getA {its : List Value} {xs : List V} (rv : Vals xs its) {i : Nat} {x : V} (hx : xs[i]? = some x) : ∃ u, its.toArray[i]? = some u ∧ RelV x u ∧ i < its.toArray.size := by
  obtain ⟨u, hu, ru⟩ := rv.get hx
  have e : its.toArray[i]? = some u := by simpa using hu
  exact ⟨u, e, ru, (Array.getElem?_eq_some_iff.mp e).1⟩
def ItA2 (K : PySem.W.Frag) (t1 : Bool) (a : Addr) (t2 : Bool) (b : Addr) : It :=
  ⟨fun i H => ∃ xs ys x y, SqA K H t1 a xs ∧ SqA K H t2 b ys ∧ xs[i]? = some x ∧ ys[i]? = some y,
   fun i H v H' => ∃ T x y, v = .ref T ∧ H T = none ∧ H' = upd H T (.tup [x, y]) ∧ (∀ xs, SqA K H t1 a xs → xs[i]? = some x) ∧ ∀ ys, SqA K H t2 b ys → ys[i]? = some y,
   fun i H => ∃ xs ys : List V, SqA K H t1 a xs ∧ SqA K H t2 b ys ∧ i ≤ xs.length ∧ i ≤ ys.length ∧ (i = xs.length ∨ i = ys.length)⟩
end DL
namespace DL
open PySem PySem.Spec PyProof.Rows L2
def iZipA2 (K : PySem.W.Frag) (ta : TA) : L2.TI := fun σ H R => ta σ H fun vs H1 => ∃ a b t1 t2 xs ys, vs = [.ref a, .ref b] ∧ SqA K H1 t1 a xs ∧ SqA K H1 t2 b ys ∧ R (ItA2 K t1 a t2 b) H1
section
variable {X : Cx} {G : Gx}
def seqOf : Dat → Option (Bool × List Dat)
  | .list xs => some (false, xs)
  | .tuple xs => some (true, xs)
  | _ => none
def triples (xs ys zs : List Dat) : List Dat := (xs.zip (ys.zip zs)).map fun p => .tuple [p.1, p.2.1, p.2.2]
@[simp] def gZipA : List Dat → Sto → Res (List Dat) := fun ds s => match ds with
  | [x, y] => match seqOf x with
    | some (_, xs) => match seqOf y with
      | some (_, ys) => .ok (pairs xs ys) s
      | none => .bad
    | none => .bad
  | _ => .bad
@[simp] def gZip3 : List Dat → Sto → Res (List Dat) := fun ds s => match ds with
  | [x, y, z] => match seqOf x with
    | some (_, xs) => match seqOf y with
      | some (_, ys) => match seqOf z with
        | some (_, zs) => .ok (triples xs ys zs) s
        | none => .bad
      | none => .bad
    | none => .bad
  | _ => .bad
def SqF (K : PySem.W.Frag) (F : Hp) (t : Bool) (a : Addr) (xs : List V) : Prop := match t with
  | true => SqT K F a xs
  | false => F a = some (.lst xs)
theorem sqF_A {K : PySem.W.Frag} {F H : Hp} {t : Bool} {a : Addr} {xs : List V} (sm : Same F H) (h : SqF K F t a xs) : SqA K H t a xs := by
  cases t
  · exact .inl (.inl (sm _ _ h))
  · exact sqT_mono sm h
theorem wk_A2 {w : Wd} {H : Hp} {t1 t2 : Bool} {a b : Addr} {xs ys : List V} {ds es : List Dat} (ha : SqF G.K (Fz w H) t1 a xs) (r : RpL G.K w.as (Fz w H) ds xs) (hb : SqF G.K (Fz w H) t2 b ys) (r2 : RpL G.K w.as (Fz w H) es ys) : Wk G w H (ItA2 G.K t1 a t2 b) (pairs ds es) := by
  have at_ : ∀ {w' H'}, FExt w H w' H' → SqA G.K H' t1 a xs := fun {w' H'} x => sqF_A (x.same.trans Fz_sub) ha
  have at2 : ∀ {w' H'}, FExt w H w' H' → SqA G.K H' t2 b ys := fun {w' H'} x => sqF_A (x.same.trans Fz_sub) hb
  have l1 := r.length
  have l2 := r2.length
  refine ⟨fun w' H' x i hi => ?_, fun w' H' x i hi => ⟨xs, ys, at_ x, at2 x, ?_⟩, fun w' e s σ H' H'' i v I x hi y => ?_⟩
  · rw [pairs_len] at hi
    have h1 : i < xs.length := by omega
    have h2 : i < ys.length := by omega
    exact ⟨xs, ys, xs[i], ys[i], at_ x, at2 x, List.getElem?_eq_getElem h1, List.getElem?_eq_getElem h2⟩
  · rw [pairs_len] at hi
    omega
  · obtain ⟨T, x1, y1, rfl, hT, rfl, f1, f2⟩ := y
    obtain ⟨d1, g1, k1⟩ := r.get (f1 xs (at_ x))
    obtain ⟨d2, g2, k2⟩ := r2.get (f2 ys (at2 x))
    obtain ⟨J, E, R⟩ := pair_new I hT (x.rp k1) (x.rp k2)
    exact ⟨J, E, _, pairs_get g1 g2, R⟩
end
end DL
namespace DL
open PySem PySem.Spec PyProof.Rows L2
end DL
namespace DL
open PySem PySem.Spec PyProof.Rows L2
section
variable {X : Cx} {G : Gx}
@[simp] def gSort3 : List Dat → Sto → Res Dat := fun ds s => match ds with
  | [.dict [(.int n, .none)]] => match s[n.toNat]? with
    | some (.dn kvs) => if sortOk (kvs.map Prod.fst) then .ok (.list (isortL leD (kvs.map Prod.fst))) s else .bad
    | _ => .bad
  | [.tuple xs] => if sortOk xs then .ok (.list (isortL leD xs)) s else .bad
  | _ => gSortD ds s
end
end DL
namespace DL
open PySem PySem.Spec PyProof.Rows L2
section
variable {X : Cx} {G : Gx}
@[simp] def nIf (Fc : FT) (Fa Fb : FA) : FA := fun e s => (Fc e s).bind fun c s1 => if c then Fa e s1 else Fb e s1
end
end DL
namespace DL
open PySem PySem.Spec PyProof.Rows L2
section
variable {X : Cx} {G : Gx}
@[simp] def gMul3 : Dat → Dat → Sto → Res Dat := fun a b s => match a, b with
  | .tuple xs, .int k => if k = 1 then .ok (.tuple xs) s else gMul2 (.tuple xs) (.int k) s
  | a, b => gMul2 a b s
end
end DL
namespace DL
open PySem PySem.Spec PyProof.Rows L2
abbrev gSub : Dat → Dat → Sto → Res Dat := gII0 (· - ·)
abbrev gDiv : Dat → Dat → Sto → Res Dat := gII cDiv (· / ·)
abbrev gMod : Dat → Dat → Sto → Res Dat := gII cMod (· % ·)
abbrev gPow : Dat → Dat → Sto → Res Dat := gII cPow fun i j => i ^ j.toNat
abbrev gLe : Dat → Dat → Sto → Res Dat := gIB fun i j => decide (i ≤ j)
@[simp] theorem size_line : sizeLine = 16777216 := sizeLine_eq
@[simp] theorem shaped_int (i : Int) : SeqAt.shaped (.int i) = true := by simp [SeqAt.shaped, PyData.canLay0, PyData.depth]
@[simp] theorem shaped_bool (i : Bool) : SeqAt.shaped (.bool i) = true := by simp [SeqAt.shaped, PyData.canLay0, PyData.depth]
@[simp] theorem shaped_none : SeqAt.shaped .none = true := by simp [SeqAt.shaped, PyData.canLay0, PyData.depth]
@[simp] theorem eqv_int (i j : Int) : PyData.eqv (.int i) (.int j) = (i == j) := by simp [PyData.eqv]
theorem at_pos {α : Type} {l : List α} {i : Int} {j : Nat} {a : α} (n : Nat) (hi : i = (j : Int)) (h : l[j]? = some a) : L2.atI l i = some a := by
  rw [hi]
  exact L2.atI_nat h
@[simp] theorem at_0 {α : Type} (a : α) (r : List α) : L2.atI (a :: r) 0 = some a := at_pos (j := 0) 0 rfl rfl
@[simp] theorem at_1 {α : Type} (a b : α) (r : List α) : L2.atI (a :: b :: r) 1 = some b := at_pos (j := 1) 0 rfl rfl
@[simp] theorem at_2 {α : Type} (a b c : α) (r : List α) : L2.atI (a :: b :: c :: r) 2 = some c := at_pos (j := 2) 0 rfl rfl
@[simp] theorem at_3 {α : Type} (a b c d : α) (r : List α) : L2.atI (a :: b :: c :: d :: r) 3 = some d := at_pos (j := 3) 0 rfl rfl
@[simp] theorem at_4 {α : Type} (a b c d e : α) (r : List α) : L2.atI (a :: b :: c :: d :: e :: r) 4 = some e := at_pos (j := 4) 0 rfl rfl
@[simp] theorem at_5 {α : Type} (a b c d e f : α) (r : List α) : L2.atI (a :: b :: c :: d :: e :: f :: r) 5 = some f := at_pos (j := 5) 0 rfl rfl
@[simp] theorem at_6 {α : Type} (a b c d e f g : α) (r : List α) : L2.atI (a :: b :: c :: d :: e :: f :: g :: r) 6 = some g := at_pos (j := 6) 0 rfl rfl
@[simp] theorem at_7 {α : Type} (a b c d e f g h : α) (r : List α) : L2.atI (a :: b :: c :: d :: e :: f :: g :: h :: r) 7 = some h := at_pos (j := 7) 0 rfl rfl
@[simp] theorem eqv_bool (i j : Bool) : PyData.eqv (.bool i) (.bool j) = (i == j) := by simp [PyData.eqv]
theorem law_end {K : PySem.W.Frag} {xc : Xc} {H : Hp} {a : Addr} {ns : List Int} {g : List Dat → Sto → Res Dat} {E : XK} (hS : SqL K H a (ns.map V.int)) (h : ∃ s, g [seal_ ns] [] = .ok (.bool true) s) : spX K xc g [.ref a] H (fun v _ => v = .bl true) E := by
  obtain ⟨s', h⟩ := h
  refine ⟨⟨[], fun _ => False⟩, [seal_ ns], [], ⟨rfl, fun n ds h => by simp at h, by simp, fun a ha => by simp at ha, fun a ha => ha.elim⟩, ?_, ?_⟩
  · refine RpL.one ?_
    simp only [Rp]
    refine ⟨a, ns, rfl, rfl, ?_⟩
    refine sqL_mono (F := H) (fun b o hb => ?_) hS
    exact Fz_of hb (by simp) fun q => q
  · rw [h]
    intro w' v H' _ r
    exact rp_bool r
end DL
namespace DL
open PySem PySem.Spec PyProof.Rows L2
section
variable {P : Program} {w : World} {A : Around} {E : Value → Shared → Prop}
def Kept (h h' : Heap) : Prop := ∀ (b : Addr) (o : Obj), h.get? b = some o → h'.get? b = some o
theorem stop_hot {α : Type} {s : Shared} {x1 : Addr} {Q : α → Shared → Prop} (hot : HotX.HotAt A x1 s.heap) (h : ∀ a h', Kept s.heap h' → (∃ o, h'.get? a = some o ∧ o.cls = Value.type "StopIteration") → E (.ref a) { s with heap := h' }) :
    wpAny (model P w) A (Builtin.SmallTypes.stopIteration) Q E s := by
  obtain ⟨hh, o1, vs1, h1, d1, c1⟩ := hot
  unfold Builtin.SmallTypes.stopIteration
  refine wpAny_bind (id (wpAny_bind (wpAny_newObj_type (wpAny_bind (wpAny_of_eq (Eq.refl (firstArgMember (Value.type "StopIteration") [])) (wpAny_newObj_type ?_ (sizeOk_excFields _ _ _ _ _ _ _ _)))) ?_)))
  · have g1 : (s.heap.push { cls := Value.type "tuple", data := Data.seq #[] }).get? x1 = some o1 := Heap.get?_push_of_some _ h1
    have ex : ∀ (b : Addr) (o : Obj), s.heap.get? b = some o → ((s.heap.push { cls := Value.type "tuple", data := Data.seq #[] }).push { cls := Value.type "StopIteration", data := Data.fields (#[Value.ref s.heap.objs.size, Value.none, Value.none, Value.none, Value.bool false, Value.none] ++ ownMembersOf (Value.type "StopIteration") []) }).get? b = some o := fun b o e => Heap.get?_push_of_some _ (Heap.get?_push_of_some _ e)
    refine HotX.raiseNew_hot ⟨hh, o1, vs1, Heap.get?_push_of_some _ g1, d1, c1⟩ (Nat.ne_of_lt (Heap.lt_size g1)) (Heap.get?_push_size _ rfl) rfl ?_ ?_
    · rw [Array.size_append]
      show 2 < 6 + _
      omega
    · refine h _ _ (fun b o e => ?_) ⟨_, Heap.get?_update_self _ (Heap.get?_push_size _ rfl) rfl, rfl⟩
      rw [Heap.get?_update_other _ _ (Nat.ne_of_gt (Heap.lt_size (Heap.get?_push_of_some _ e)))]
      exact ex b o e
  · show sizeOk (Data.seq #[])
    unfold sizeOk
    first
      | trivial
      | (show (0 : Nat) ≤ sizeLine; exact Nat.zero_le _)
theorem next_list_hot {s : Shared} {it l x1 : Addr} {i : Nat} {items : Array Value} {Q : Option Value → Shared → Prop} (hot : HotX.HotAt A x1 s.heap) (hne : x1 ≠ it) (hit : s.heap.IsListIter it l i) (hl : s.heap.IsList l items) (hx : items[i]? = none)
    (h : ∀ h' : Heap, Heap.ExtBut it s.heap h' → Q none { s with heap := h' }) : wpAny (model P w) A (pyNext (Value.ref it)) Q E s := by
  obtain ⟨hh, o1, vs1, h1, d1, c1⟩ := hot
  have hT := hit.typeIs
  obtain ⟨o, ho, hc, hd⟩ := id hit
  obtain ⟨ol, hol, hcl, nl, hdl⟩ := hl
  refine id (wpAny_bind (wpAny_attempt (wpAny_callSpecial?_slot hT slot_listiter_next (wpAny_call_entry slot_listiter_next hT entry_listiter_next ?_ (args_listiter_next (Value.ref it))))))
  refine id (wpAny_bind ?_)
  unfold slotArgs
  refine wpAny_ite_false (by rfl) ?_
  refine id (wpAny_ite_false (by rfl) (wpAny_pure ?_))
  refine id (wpAny_bind (wpAny_field ho hd rfl ?_))
  refine id (wpAny_ite_false (by rfl) ?_)
  refine id (wpAny_bind (wpAny_field ho hd rfl ?_))
  refine id (wpAny_bind (wpAny_seqItems hol hdl ?_))
  have e : items[((i : Int)).toNat]? = none := by simpa using hx
  simp only [e]
  refine wpAny_bind (wpAny_rule (wpAny_bind (wpAny_setField ho hd (by show 0 < 2; omega) ?_)))
  have g1 : (s.heap.update it (Obj.mapFields fun x => x.setIfInBounds 0 Value.none)).get? x1 = some o1 := by
    rw [Heap.get?_update_other _ _ (Ne.symm hne)]
    exact h1
  refine id (stop_hot (A := A.in1) (s := { s with heap := s.heap.update it (Obj.mapFields fun x => x.setIfInBounds 0 Value.none) }) ⟨hh, o1, vs1, g1, d1, c1⟩ fun a h' kp ⟨oe, he, ce⟩ => ?_)
  refine id (wpAny_bind (wpAny_isInstance (show Shared.TypeIs _ _ "StopIteration" from ⟨oe, he, ce⟩) isSubtype_stop (wpAny_pure (h h' fun b ob hb eb => ?_))))
  refine kp b ob ?_
  rw [Heap.get?_update_other _ _ (Ne.symm hb)]
  exact eb
theorem next_tuple_hot {s : Shared} {it l x1 : Addr} {i : Nat} {items : Array Value} {Q : Option Value → Shared → Prop} (hot : HotX.HotAt A x1 s.heap) (hne : x1 ≠ it) (hit : s.heap.IsTupleIter it l i) (hl : s.heap.IsTuple l items) (hx : items[i]? = none)
    (h : ∀ h' : Heap, Heap.ExtBut it s.heap h' → Q none { s with heap := h' }) : wpAny (model P w) A (pyNext (Value.ref it)) Q E s := by
  obtain ⟨hh, o1, vs1, h1, d1, c1⟩ := hot
  have hT := hit.typeIs
  obtain ⟨o, ho, hc, hd⟩ := id hit
  obtain ⟨ol, hol, hcl, nl, hdl⟩ := hl
  refine id (wpAny_bind (wpAny_attempt (wpAny_callSpecial?_slot hT F.slot_tuple_iterator_next (wpAny_call_entry F.slot_tuple_iterator_next hT F.entry_tuple_iterator_next ?_ (F.args_tuple_iterator_next_1 (Value.ref it))))))
  refine id (wpAny_bind ?_)
  unfold slotArgs
  refine wpAny_ite_false (by rfl) ?_
  refine id (wpAny_ite_false (by rfl) (wpAny_pure ?_))
  refine id (wpAny_bind (wpAny_field ho hd rfl ?_))
  refine id (wpAny_ite_false (by rfl) ?_)
  refine id (wpAny_bind (wpAny_field ho hd rfl ?_))
  refine id (wpAny_bind (wpAny_seqItems hol hdl ?_))
  have e : items[((i : Int)).toNat]? = none := by simpa using hx
  simp only [e]
  refine wpAny_bind (wpAny_rule (wpAny_bind (wpAny_setField ho hd (by show 0 < 2; omega) ?_)))
  have g1 : (s.heap.update it (Obj.mapFields fun x => x.setIfInBounds 0 Value.none)).get? x1 = some o1 := by
    rw [Heap.get?_update_other _ _ (Ne.symm hne)]
    exact h1
  refine id (stop_hot (A := A.in1) (s := { s with heap := s.heap.update it (Obj.mapFields fun x => x.setIfInBounds 0 Value.none) }) ⟨hh, o1, vs1, g1, d1, c1⟩ fun a h' kp ⟨oe, he, ce⟩ => ?_)
  refine id (wpAny_bind (wpAny_isInstance (show Shared.TypeIs _ _ "StopIteration" from ⟨oe, he, ce⟩) isSubtype_stop (wpAny_pure (h h' fun b ob hb eb => ?_))))
  refine kp b ob ?_
  rw [Heap.get?_update_other _ _ (Ne.symm hb)]
  exact eb
theorem next_ascii_hot {s : Shared} {it x1 : Addr} {x : Str} {t : Tok} {i : Nat} {Q : Option Value → Shared → Prop} (hot : HotX.HotAt A x1 s.heap) (hne : x1 ≠ it) (hit : s.heap.IsStrIter it "str_ascii_iterator" x t i) (hx : x.cps[i]? = none)
    (h : ∀ h' : Heap, Heap.ExtBut it s.heap h' → Q none { s with heap := h' }) : wpAny (model P w) A (pyNext (Value.ref it)) Q E s := by
  obtain ⟨hh, o1, vs1, h1, d1, c1⟩ := hot
  have hT := hit.typeIs
  obtain ⟨o, ho, hc, hd⟩ := id hit
  refine id (wpAny_bind (wpAny_attempt (wpAny_callSpecial?_slot hT F.slot_str_ascii_iterator_next (wpAny_call_entry F.slot_str_ascii_iterator_next hT F.entry_str_ascii_iterator_next ?_ (F.args_str_ascii_iterator_next_1 (Value.ref it))))))
  refine id (wpAny_bind ?_)
  unfold slotArgs
  refine wpAny_ite_false (by rfl) ?_
  refine id (wpAny_ite_false (by rfl) (wpAny_pure ?_))
  refine id (wpAny_bind (wpAny_field ho hd rfl ?_))
  refine id (wpAny_bind (id (wpAny_pure ?_)))
  refine id (wpAny_bind (wpAny_field ho hd rfl ?_))
  have e : x.cps[((i : Int)).toNat]? = none := by simpa using hx
  simp only [List.getElem_toArray, List.getElem_cons_succ, List.getElem_cons_zero, e]
  refine id (wpAny_bind (wpAny_rule ?_))
  refine id (wpAny_bind (wpAny_setField ho hd (by show 0 < 2; omega) ?_))
  have g1 : (s.heap.update it (Obj.mapFields fun x => x.setIfInBounds 0 Value.none)).get? x1 = some o1 := by
    rw [Heap.get?_update_other _ _ (Ne.symm hne)]
    exact h1
  refine id (wpAny_bind (wpAny_letGo ?_))
  refine id (stop_hot (A := A.in1) (s := { s with heap := s.heap.update it (Obj.mapFields fun x => x.setIfInBounds 0 Value.none) }) ⟨hh, o1, vs1, g1, d1, c1⟩ fun a h' kp ⟨oe, he, ce⟩ => ?_)
  refine id (wpAny_bind (wpAny_isInstance (show Shared.TypeIs _ _ "StopIteration" from ⟨oe, he, ce⟩) isSubtype_stop (wpAny_pure (h h' fun b ob hb eb => ?_))))
  refine kp b ob ?_
  rw [Heap.get?_update_other _ _ (Ne.symm hb)]
  exact eb
theorem next_wide_hot {s : Shared} {it x1 : Addr} {x : Str} {t : Tok} {i : Nat} {Q : Option Value → Shared → Prop} (hot : HotX.HotAt A x1 s.heap) (hne : x1 ≠ it) (hit : s.heap.IsStrIter it "str_iterator" x t i) (hx : x.cps[i]? = none)
    (h : ∀ h' : Heap, Heap.ExtBut it s.heap h' → Q none { s with heap := h' }) : wpAny (model P w) A (pyNext (Value.ref it)) Q E s := by
  obtain ⟨hh, o1, vs1, h1, d1, c1⟩ := hot
  have hT := hit.typeIs
  obtain ⟨o, ho, hc, hd⟩ := id hit
  refine id (wpAny_bind (wpAny_attempt (wpAny_callSpecial?_slot hT F.slot_str_iterator_next (wpAny_call_entry F.slot_str_iterator_next hT F.entry_str_iterator_next ?_ (F.args_str_iterator_next_1 (Value.ref it))))))
  refine id (wpAny_bind ?_)
  unfold slotArgs
  refine wpAny_ite_false (by rfl) ?_
  refine id (wpAny_ite_false (by rfl) (wpAny_pure ?_))
  refine id (wpAny_bind (wpAny_field ho hd rfl ?_))
  refine id (wpAny_bind (id (wpAny_pure ?_)))
  refine id (wpAny_bind (wpAny_field ho hd rfl ?_))
  have e : x.cps[((i : Int)).toNat]? = none := by simpa using hx
  simp only [List.getElem_toArray, List.getElem_cons_succ, List.getElem_cons_zero, e]
  refine id (wpAny_bind (wpAny_rule ?_))
  refine id (wpAny_bind (wpAny_setField ho hd (by show 0 < 2; omega) ?_))
  have g1 : (s.heap.update it (Obj.mapFields fun x => x.setIfInBounds 0 Value.none)).get? x1 = some o1 := by
    rw [Heap.get?_update_other _ _ (Ne.symm hne)]
    exact h1
  refine id (wpAny_bind (wpAny_letGo ?_))
  refine id (stop_hot (A := A.in1) (s := { s with heap := s.heap.update it (Obj.mapFields fun x => x.setIfInBounds 0 Value.none) }) ⟨hh, o1, vs1, g1, d1, c1⟩ fun a h' kp ⟨oe, he, ce⟩ => ?_)
  refine id (wpAny_bind (wpAny_isInstance (show Shared.TypeIs _ _ "StopIteration" from ⟨oe, he, ce⟩) isSubtype_stop (wpAny_pure (h h' fun b ob hb eb => ?_))))
  refine kp b ob ?_
  rw [Heap.get?_update_other _ _ (Ne.symm hb)]
  exact eb
end
end DL
namespace DL
open PySem PySem.Spec PyProof.Rows L2
section
variable {X : Cx} {pins : List (Addr × Obj)} {σ : L2.St} {H : Hp} {s : Shared}
theorem hot_at (hc : L2H.HotC X) (I : L2.Inv X pins σ H s) : ∃ x1, HotX.HotAt X.A x1 s.heap ∧ ∀ b, FpOk X pins H b → x1 ≠ b := by
  obtain ⟨p, ⟨h1, vs, h2, h3⟩, hp⟩ := hc
  obtain ⟨g, _⟩ := I.pin p (List.mem_append_left _ hp)
  exact ⟨p.1, ⟨h1, p.2, vs, g, h2, h3⟩, fun b hb => hb.2.2.2.2.2 p (List.mem_append_left _ hp)⟩
end
theorem turn_listH {P : Program} {w : World} {K : PySem.W.Frag} {tg : Expr} (a it : Addr) : L2H.TurnH P w K tg (Itl K a) [it] it (fun i h => h.IsListIter it a i) where
  mem := List.mem_cons_self
  obj := fun i h st b hb => by
    cases List.mem_singleton.mp hb
    obtain ⟨o, e, c, d⟩ := st
    exact ⟨o, e, fun v z => by rw [d] at z; cases z⟩
  keep := fun i h h' st k => st.at fun o e => k it (by simp) o e
  item := fun X hP hw hK hc i pins s σ H E I hf st hg => by
    subst hP hw hK
    obtain ⟨xs, x, hq, hx⟩ := hg
    obtain ⟨its, rv, p, hz⟩ := I.list hq
    obtain ⟨u, hu, ru⟩ := rv.get hx
    obtain ⟨f0, f1, f2, f3, f4, f5⟩ := hf it (by simp)
    refine wpAny_pyNext_list_item st p.isList (by simpa using hu) fun h' st' sb => ?_
    have I1 := I.turned (t' := s.toks) (fun b o hb e => (sb.2 b hb).trans e) f0 f1 f3 f4 f5
    obtain ⟨o, e, c, d⟩ := id st'
    refine ⟨u, rfl, go_of e c d (by decide) ⟨x, H, I1, ru, ⟨rfl, fun ys hy => ?_⟩, st', fun b hb => (hf b hb).1⟩⟩
    rw [I.list_inj hy hq]
    exact hx
  done := fun X hP hw hK hc i pins s σ H E I hf st hg => by
    subst hP hw hK
    obtain ⟨xs, hq, hx⟩ := hg
    obtain ⟨its, rv, p, hz⟩ := I.list hq
    obtain ⟨x1, hot, ap⟩ := hot_at hc I
    have fo := hf it (by simp)
    obtain ⟨f0, f1, f2, f3, f4, f5⟩ := fo
    have hl := rv.length
    exact next_list_hot hot (ap it (hf it (by simp))) st p.isList (by simp; omega) fun h' eb => ⟨rfl, I.turned (t' := s.toks) (fun b o hb e => eb b o hb e) f0 f1 f3 f4 f5⟩
  self := fun _ _ _ _ _ st h => wpAny_pyIter_listiter st h
theorem turn_tupleH {P : Program} {w : World} {K : PySem.W.Frag} {tg : Expr} (a it : Addr) : L2H.TurnH P w K tg (Itt K a) [it] it (fun i h => h.IsTupleIter it a i) where
  mem := List.mem_cons_self
  obj := fun i h st b hb => by
    cases List.mem_singleton.mp hb
    obtain ⟨o, e, c, d⟩ := st
    exact ⟨o, e, fun v z => by rw [d] at z; cases z⟩
  keep := fun i h h' st k => st.at fun o e => k it (by simp) o e
  item := fun X hP hw hK hc i pins s σ H E I hf st hg => by
    subst hP hw hK
    obtain ⟨xs, x, hq, hx⟩ := hg
    obtain ⟨its, rv, p, hz⟩ := I.tuple hq
    obtain ⟨u, hu, ru⟩ := rv.get hx
    obtain ⟨f0, f1, f2, f3, f4, f5⟩ := hf it (by simp)
    refine wpAny_pyNext_tuple_item st p (by simpa using hu) fun h' st' sb => ?_
    have I1 := I.turned (t' := s.toks) (fun b o hb e => (sb.2 b hb).trans e) f0 f1 f3 f4 f5
    obtain ⟨o, e, c, d⟩ := id st'
    refine ⟨u, rfl, go_of e c d (by decide) ⟨x, H, I1, ru, ⟨rfl, fun ys hy => ?_⟩, st', fun b hb => (hf b hb).1⟩⟩
    rw [I.tuple_inj hy hq]
    exact hx
  done := fun X hP hw hK hc i pins s σ H E I hf st hg => by
    subst hP hw hK
    obtain ⟨xs, hq, hx⟩ := hg
    obtain ⟨its, rv, p, hz⟩ := I.tuple hq
    obtain ⟨x1, hot, ap⟩ := hot_at hc I
    have fo := hf it (by simp)
    obtain ⟨f0, f1, f2, f3, f4, f5⟩ := fo
    have hl := rv.length
    exact next_tuple_hot hot (ap it (hf it (by simp))) st p (by simp; omega) fun h' eb => ⟨rfl, I.turned (t' := s.toks) (fun b o hb e => eb b o hb e) f0 f1 f3 f4 f5⟩
  self := fun _ _ _ _ _ st h => wpAny_pyIter_tupleiter st h
theorem turn_strH {P : Program} {w : World} {K : PySem.W.Frag} {tg : Expr} (it : Addr) (x : Str) (t : Tok) (ty : String) (hty : ty = "str_ascii_iterator" ∨ ty = "str_iterator") : L2H.TurnH P w K tg (Its x) [it] it (fun i h => h.IsStrIter it ty x t i) where
  mem := List.mem_cons_self
  obj := fun i h st b hb => by
    cases List.mem_singleton.mp hb
    obtain ⟨o, e, c, d⟩ := st
    exact ⟨o, e, fun v z => by rw [d] at z; cases z⟩
  keep := fun i h h' st k => by
    obtain ⟨o, ho, r⟩ := st
    exact ⟨o, k it (by simp) o ho, r⟩
  item := fun X hP hw hK hc i pins s σ H E I hf st hg => by
    subst hP hw hK
    obtain ⟨f0, f1, f2, f3, f4, f5⟩ := hf it (by simp)
    have hcx : x.cps[i]? = some x.cps[i] := Array.getElem?_eq_getElem hg
    have fin : ∀ h', h'.IsStrIter it ty x t (i + 1) → Heap.SameBut it s.heap h' → ∃ u, some (Value.str { cps := #[x.cps[i]] } s.toks) = some u ∧ wpAny (model X.prog X.w) X.A (letOwnedTupleGo tg (Value.ref it) u) (fun _ s2 => ∃ y H', L2.Inv X pins σ H' s2 ∧ L2.RelV y u ∧ (Its x).yld i H y H' ∧ s2.heap.IsStrIter it ty x t (i + 1) ∧ ∀ b, b ∈ [it] → H' b = none) E { s with heap := h', toks := s.toks + 1 } := fun h' st' sb => by
      have I1 := I.turned (t' := s.toks + 1) (fun b o hb e => (sb.2 b hb).trans e) f0 f1 f3 f4 f5
      obtain ⟨oi, e, cc, dd⟩ := id st'
      refine ⟨_, rfl, go_of e cc dd ?_ ⟨.str { cps := #[x.cps[i]] }, H, I1, ⟨_, rfl⟩, ⟨rfl, _, hcx, rfl⟩, st', fun b hb => (hf b hb).1⟩⟩
      rcases hty with e | e <;> rw [e] <;> decide
    rcases hty with e | e
    · subst e
      exact wpAny_pyNext_ascii_item st hcx fin
    · subst e
      exact wpAny_pyNext_wide_item st hcx fin
  done := fun X hP hw hK hc i pins s σ H E I hf st hg => by
    subst hP hw hK
    obtain ⟨x1, hot, ap⟩ := hot_at hc I
    have ne := ap it (hf it (by simp))
    obtain ⟨f0, f1, f2, f3, f4, f5⟩ := hf it (by simp)
    have hx : x.cps[i]? = none := Array.getElem?_eq_none hg
    rcases hty with e | e
    · subst e
      exact next_ascii_hot hot ne st hx fun h' eb => ⟨rfl, I.turned (t' := s.toks) (fun b o hb e => eb b o hb e) f0 f1 f3 f4 f5⟩
    · subst e
      exact next_wide_hot hot ne st hx fun h' eb => ⟨rfl, I.turned (t' := s.toks) (fun b o hb e => eb b o hb e) f0 f1 f3 f4 f5⟩
  self := fun A i s Q E st h => by
    rcases hty with e | e
    · subst e
      exact wpAny_pyIter_striter_ascii st h
    · subst e
      exact wpAny_pyIter_striter_wide st h
section
variable {X : Cx} {G : Gx}
theorem pi_oneH {tg : Expr} {pins : List (Addr × Obj)} {σ : L2.St} {H : Hp} {s : Shared} {R : It → Hp → Prop} {J : It} {tn : Nat → Heap → Prop} {tk : Nat} (I : L2.Inv X pins σ H s) (o : Obj) (T : L2H.TurnH X.prog X.w X.K tg J [s.heap.objs.size] s.heap.objs.size tn) (h0 : tn 0 (s.heap.push o)) (q : R J H) :
    L2H.PIEH X pins σ tg R (Value.ref s.heap.objs.size) { s with heap := s.heap.push o, toks := tk } := by
  refine ⟨s.heap.objs.size, [s.heap.objs.size], tn, J, H, rfl, I.kept fun b ob e => Heap.get?_push_of_some _ e, T, h0, fun b hb => ?_, q⟩
  cases List.mem_singleton.mp hb
  exact I.fpOk (Nat.le_refl _) (I.hok.fresh (Nat.le_refl _))
theorem pi_listH {tg l : Expr} {tl : TE} (hl : PE X l tl) : L2H.PIH X tg l (iList X.K tl) := ⟨fun pins s σ H R I h => thn (hl.run pins s σ H _ I h) fun v s1 ⟨x, H1, I1, r1, a, e, ⟨xs, hq⟩, q⟩ => by
  subst e
  cases (show v = Value.ref a from r1)
  obtain ⟨its, rv, p, hz⟩ := I1.list hq
  exact wpAny_pyIter_list p.isList (pi_oneH I1 _ (turn_listH a _) ⟨_, Heap.get?_push_size _ rfl, rfl, rfl⟩ q)⟩
theorem pi_tupH {tg l : Expr} {tl : TE} (hl : PE X l tl) : L2H.PIH X tg l (iTup X.K tl) := ⟨fun pins s σ H R I h => thn (hl.run pins s σ H _ I h) fun v s1 ⟨x, H1, I1, r1, a, e, ⟨xs, hq⟩, q⟩ => by
  subst e
  cases (show v = Value.ref a from r1)
  obtain ⟨its, rv, p, hz⟩ := I1.tuple hq
  exact wpAny_pyIter_tuple p (pi_oneH I1 _ (turn_tupleH a _) ⟨_, Heap.get?_push_size _ rfl, rfl, rfl⟩ q)⟩
theorem pi_strH {tg l : Expr} {tl : TE} (hl : PE X l tl) : L2H.PIH X tg l (iStr tl) := ⟨fun pins s σ H R I h => thn (hl.run pins s σ H _ I h) fun v s1 ⟨y, H1, I1, r1, x, e, q⟩ => by
  subst e
  obtain ⟨t, rfl⟩ := r1
  cases ha : x.cps.all fun c => decide (c < 128) with
  | true => exact wpAny_pyIter_ascii ha (pi_oneH I1 _ (turn_strH _ x t _ (.inl rfl)) ⟨_, Heap.get?_push_size _ rfl, rfl, rfl⟩ q)
  | false => exact wpAny_pyIter_wide ha (pi_oneH I1 _ (turn_strH _ x t _ (.inr rfl)) ⟨_, Heap.get?_push_size _ rfl, rfl, rfl⟩ q)⟩
theorem PIH_imp {tg a : Expr} {t t' : TI} (h : L2H.PIH X tg a t) (k : ∀ σ H R, t' σ H R → t σ H R) : L2H.PIH X tg a t' := ⟨fun pins s σ H R I q => h.run pins s σ H R I (k _ _ _ q)⟩
theorem PIH_or {tg a : Expr} {t t' : TI} (h : L2H.PIH X tg a t) (h' : L2H.PIH X tg a t') : L2H.PIH X tg a (fun σ H R => t σ H R ∨ t' σ H R) := ⟨fun pins s σ H R I q => by
  rcases q with q | q
  · exact h.run pins s σ H R I q
  · exact h'.run pins s σ H R I q⟩
end
end DL
namespace L2
open PySem PySem.Spec PyProof.Rows DL
@[reducible] def Cx.blkH (X : Cx) (s : Shared) (H : Hp) (scope : Scope) (cenv : Env) (fp : List Addr) : Cx := { X.blk s H scope cenv fp with pn := X.pn }
section
variable {X : Cx}
theorem ok_pn {Y : Cx} (h : Y.Ok) (pn : List (Addr × Obj)) : ({ Y with pn := pn } : Cx).Ok :=
  ⟨h.mod, h.kind, h.glob, h.blt, h.above, h.inj, h.has, h.cab, h.hd, h.frames, h.stk, h.exf, h.bs, h.bsz, h.noex, h.exfs, h.funs, h.frf⟩
theorem inv_pn {Y : Cx} {pins : List (Addr × Obj)} {σ : St} {H : Hp} {s : Shared} (I : Inv Y pins σ H s) (pn : List (Addr × Obj)) (hp : ∀ p ∈ pn ++ pins, s.heap.get? p.1 = some p.2 ∧ H p.1 = none ∧ p.1 ≠ Y.env.locals ∧ ¬ p.1 ∈ Y.fs ∧ ∀ v : Option Value, p.2.data ≠ Data.cell v) : Inv { Y with pn := pn } pins σ H s :=
  ⟨ok_pn I.ok pn, I.os, I.bare, I.base, I.loc, I.cell, I.free, I.freeC, hp, I.hok, I.len⟩
theorem block_startH {pins : List (Addr × Obj)} {σ : St} {H : Hp} {s : Shared} {scope : Scope} {own : List (Str × Nat)} {fp : List Addr} (I : Inv X pins σ H s) (ok : BlkOk X.N X.env.scope scope own) (hN : X.N.Nodup) (hfp : ∀ b ∈ fp, FpOk X pins H b ∧ b < s.heap.objs.size) :
    Inv (X.blkH s H scope (compEnvC scope (cellsFrom (s.heap.objs.size + 1) scope.names (cloFrom X.env.cells scope.names [])) s.heap.objs.size X.env) fp) [] (wipe σ (own.map (·.2))) H { s with heap := pushCells (s.heap.push { cls := .type "dict", data := .dict #[] }) scope.names } := by
  refine inv_pn (block_start I ok hN hfp) X.pn fun p hp => ?_
  rw [List.append_nil] at hp
  obtain ⟨h1, h2, h3, h4, h5⟩ := I.pin p (List.mem_append_left _ hp)
  refine ⟨pushCells_keeps _ _ _ _ (Heap.get?_push_of_some _ h1), h2, ?_, ?_, h5⟩
  · show p.1 ≠ s.heap.objs.size
    exact Nat.ne_of_lt (Heap.lt_size h1)
  · intro z
    have z' : p.1 ∈ frs X.stack := z
    rcases I.ok.stk with e | ⟨e, e2⟩
    · rw [e] at z'
      exact h4 z'
    · rw [e] at z'
      unfold frs at z'
      rw [List.filterMap_cons, e2] at z'
      rcases List.mem_cons.mp z' with q | q
      · exact h3 q
      · exact h4 q
theorem lc_coreH {pins : List (Addr × Obj)} {s : Shared} {σ : St} {H : Hp} {Q : VK} {elt tg iter : Expr} {ifs : List Expr} {scope : Scope} {own : List (Str × Nat)} {pos pos' : Pos} {wi : TI} {g : TG} {tt : TT} {te : TE} {use : Option (Value → Sem Unit)} {Qf : Value → Shared → Prop}
    (hc : L2H.HotC X) (hN : X.N.Nodup) (I : Inv X pins σ H s) (hi : L2H.PIH X tg iter wi) (ok : BlkOk X.N X.env.scope scope own)
    (hg : ∀ (s : Shared) (H : Hp) (C : Addr) (cl : List (Str × Addr)) (fp : List Addr), PG (X.blkH s H scope (compEnvC scope cl C X.env) fp) tg g) (ht : ∀ (s : Shared) (H : Hp) (C : Addr) (cl : List (Str × Addr)) (fp : List Addr), PTs (X.blkH s H scope (compEnvC scope cl C X.env) fp) ifs tt)
    (he : ∀ (s : Shared) (H : Hp) (C : Addr) (cl : List (Str × Addr)) (fp : List Addr), PE (X.blkH s H scope (compEnvC scope cl C X.env) fp) elt te) (hs : ∀ x, foldedSetIterable iter X.env x = pure x)
    (h : tLc wi g tt te (own.map (·.2)) σ H Q)
    (hRR : ∀ D C s' m H', Inv X pins σ H' s' → Q (.ref D) H' → s'.heap.Ns C m → FpOk X pins H' C → compPost (model X.prog X.w) X.A X.xe use Qf (.ref D) C (.ok .next) s') :
    wpAny (model X.prog X.w) X.A (comprehension (.ListComp elt [⟨tg, iter, ifs, 0⟩] scope pos) scope X.env pos' (newList []) false (eval iter X.env) use) Qf X.xe s := by
  have hfree : ∀ y ∈ scope.names, y.2 = .free → ∃ c, X.env.cells.lookup y.1 = some c := fun y hy e => by
    rcases ok.free y hy e with k | k
    · exact I.ok.has _ (.inl k)
    · exact I.ok.has _ (.inr k)
  refine wpAny_comprehension_free (use := use) rfl hs (closure_ok hfree) ok.kind (fun y hy e => by rw [ok.uniq y hy, e])
    (thn (hi.run pins s σ H _ I h) fun xv s1 hx => thn hx fun itv s2 h2 => ?_)
  obtain ⟨it, fp, tn, J, H2, e, I2, T, st2, f2, q⟩ := h2
  subst e
  refine wpAny_newObj_type (newEnv_comp ?_) (by show 0 ≤ sizeLine; decide)
  generalize hD : s2.heap.objs.size = D
  have hDn : H2 D = none := I2.hok.fresh (Nat.le_of_eq hD)
  obtain ⟨W, ⟨m0, w0⟩, turn⟩ := q D hDn
  generalize hs3 : ({ s2 with heap := s2.heap.push { cls := .type "list", data := .seq ([] : List Value).toArray } } : Shared) = s3
  have I3 : Inv X pins σ (upd H2 D (.lst [])) s3 := by
    rw [← hs3]
    refine I2.laid (t' := s2.toks) (fun b o e => Heap.get?_push_of_some _ e) (Nat.le_of_eq hD) ⟨Nat.zero_le _, [], 0, .nil, ?_⟩
    rw [← hD]
    exact Heap.get?_push_size _ rfl
  have h3 : s3.heap = s2.heap.push { cls := .type "list", data := .seq ([] : List Value).toArray } := by rw [← hs3]
  have sz : ∀ b ∈ fp, b < s2.heap.objs.size := fun b hb => by
    obtain ⟨o, e, _⟩ := T.obj _ _ st2 b hb
    exact Heap.lt_size e
  have f3 : ∀ b ∈ fp, FpOk X pins (upd H2 D (.lst [])) b ∧ b < s3.heap.objs.size := fun b hb => by
    have hlt := sz b hb
    refine ⟨⟨?_, (f2 b hb).2⟩, by rw [h3, Heap.size_push]; exact Nat.lt_succ_of_lt hlt⟩
    rw [upd_ne (by rw [← hD]; exact Nat.ne_of_lt hlt)]
    exact (f2 b hb).1
  have st3 : tn 0 s3.heap := T.keep _ _ _ st2 fun b _ o e => by rw [h3]; exact Heap.get?_push_of_some _ e
  have I4 := block_startH I3 ok hN f3
  have pg := hg s3 (upd H2 D (.lst [])) s3.heap.objs.size (cellsFrom (s3.heap.objs.size + 1) scope.names (cloFrom X.env.cells scope.names [])) fp
  have pt := ht s3 (upd H2 D (.lst [])) s3.heap.objs.size (cellsFrom (s3.heap.objs.size + 1) scope.names (cloFrom X.env.cells scope.names [])) fp
  have pe := he s3 (upd H2 D (.lst [])) s3.heap.objs.size (cellsFrom (s3.heap.objs.size + 1) scope.names (cloFrom X.env.cells scope.names [])) fp
  show codeAny _ _ (.compStart (.ListComp elt [⟨tg, iter, ifs, 0⟩] scope pos) 0 (.ref it) (.ref D) (compEnvC scope (cellsFrom (s3.heap.objs.size + 1) scope.names (cloFrom X.env.cells scope.names [])) s3.heap.objs.size X.env)) (compPost (model X.prog X.w) X.A X.xe use Qf (.ref D) s3.heap.objs.size) { s3 with heap := pushCells (s3.heap.push { cls := .type "dict", data := .dict #[] }) scope.names }
  have nfp : ∀ b ∈ fp, (upd H2 D (.lst [])) b = none := fun b hb => (f3 b hb).1.1
  generalize hce : compEnvC scope (cellsFrom (s3.heap.objs.size + 1) scope.names (cloFrom X.env.cells scope.names [])) s3.heap.objs.size X.env = ce at I4 pg pt pe ⊢
  have cL : ce.locals = s3.heap.objs.size := by subst hce; rfl
  generalize hH3 : upd H2 D (.lst []) = H3 at I3 I4 pg pt pe w0 nfp f3
  generalize hs4 : ({ s3 with heap := pushCells (s3.heap.push { cls := .type "dict", data := .dict #[] }) scope.names } : Shared) = s4 at I4 ⊢
  have st4 : tn 0 s4.heap := T.keep _ _ _ st3 fun b _ o e => by rw [← hs4]; exact pushCells_keeps _ _ _ _ (Heap.get?_push_of_some _ e)
  have pz : ∀ b ∈ fp, ∀ p ∈ X.pn, p.1 ≠ b := fun b hb p hp => (f2 b hb).2.2.2.2.2 p (List.mem_append_left _ hp)
  have stat : ∀ {σ' : St} {H' : Hp} {s' : Shared}, Inv (X.blkH s3 H3 scope ce fp) [] σ' H' s' → (∀ b ∈ fp, H' b = none) → ∀ b ∈ fp, FpOk (X.blkH s3 H3 scope ce fp) [] H' b := fun {σ' H' s'} I' hn b hb =>
    ⟨hn b hb, (I'.ok.exf b hb).1, I'.ok.exfs b hb, .inl hb, fun x c e => (I'.ok.exf b hb).2 x c e, fun p hp => pz b hb p (by
      have hp' : p ∈ X.pn ++ [] := hp
      rwa [List.append_nil] at hp')⟩
  have loop : codeAny (model X.prog X.w) X.A (.compLoop (.ListComp elt [⟨tg, iter, ifs, 0⟩] scope pos) 0 (.ref it) (.ref D) ce) (compPost (model X.prog X.w) X.A X.xe use Qf (.ref D) s3.heap.objs.size) s4 := by
    refine compLoop_any (fun n s' => ∃ i H', Inv (X.blkH s3 H3 scope ce fp) [] (wipe σ (own.map (·.2))) H' s' ∧ tn i s'.heap ∧ (∀ b ∈ fp, H' b = none) ∧ W i n H') ?_ m0 ⟨0, H3, I4, st4, nfp, w0⟩
    rintro n s5 ⟨i, H5, I5, st5, n5, w5⟩
    rcases turn i n H5 w5 with ⟨stop, qq⟩ | ⟨go, Nx, hNx, step⟩
    · have td := T.done (X.blkH s3 H3 scope ce fp) rfl rfl rfl hc i [] s5 _ H5 (fun _ _ => False) I5 (stat I5 n5) st5 stop
      refine thnF td fun r s6 ⟨hr, I6⟩ => ?_
      subst hr
      have I7 : Inv X pins σ H5 s6 := I3.call' (ch := fp) I6.os I6.base I6.hok I6.bare fun b hb => ⟨(f3 b hb).1.2.2.2.1, (f3 b hb).1.2.1, (f3 b hb).1.2.2.2.2.1, (f3 b hb).1.2.2.2.2.2⟩
      have nC : H5 s3.heap.objs.size = none := by
        have z : H5 ce.locals = none := I6.free
        rw [cL] at z
        exact z
      obtain ⟨m, hn, _⟩ := I6.loc
      have hn : s6.heap.Ns ce.locals m := hn
      rw [cL] at hn
      exact hRR D s3.heap.objs.size s6 m H5 I7 qq hn (I3.fpOk (Nat.le_refl _) nC)
    · have ti := T.item (X.blkH s3 H3 scope ce fp) rfl rfl rfl hc i [] s5 _ H5 (fun _ _ => False) I5 (stat I5 n5) st5 go
      refine thnF ti fun r s6 ⟨u, hr, h6⟩ => ?_
      subst hr
      refine thnF h6 fun _ s7 ⟨x, H7, I7, r7, y7, st7, n7⟩ => ?_
      have I7' := I7.pinned (stat I7 n7) (T.obj _ _ st7)
      refine thnF (pg.run _ s7 _ H7 x u _ I7' r7 (step x H7 y7)) fun _ s8 ⟨σ8, H8, I8, hw8, q8⟩ => ?_
      refine thnF (pt.run _ s8 σ8 H8 _ I8 q8) fun b s9 ⟨H9, I9, q9⟩ => ?_
      have fin : ∀ {σ9 : St} {s' : Shared} {H' : Hp}, Inv (X.blkH s3 H3 scope ce fp) ([] ++ pinsAt fp s7.heap) σ9 H' s' → (wipe σ (own.map (·.2))).length = σ9.length → (∀ (j : Nat) v, (wipe σ (own.map (·.2)))[j]? = some (some v) → σ9[j]? = some (some v)) → Nx H' →
          ∃ m, m < n ∧ ∃ i H', Inv (X.blkH s3 H3 scope ce fp) [] (wipe σ (own.map (·.2))) H' s' ∧ tn i s'.heap ∧ (∀ b ∈ fp, H' b = none) ∧ W i m H' := fun {σ9 s' H'} I' hl hk nx => by
        obtain ⟨m', hm, w'⟩ := hNx H' nx
        have pin' : ∀ b ∈ fp, ∀ o, s7.heap.get? b = some o → s'.heap.get? b = some o ∧ H' b = none := fun b hb o e =>
          let z := I'.pin (b, o) (List.mem_append_right _ (List.mem_append_right _ (mem_pinsAt hb e)))
          ⟨z.1, z.2.1⟩
        refine ⟨m', hm, i + 1, H', (I'.unpinned (pins := [])).weak hl hk, T.keep _ _ _ st7 fun b hb o e => (pin' b hb o e).1, fun b hb => ?_, w'⟩
        obtain ⟨o, e, _⟩ := T.obj _ _ st7 b hb
        exact (pin' b hb o e).2
      have hl8 : (wipe σ (own.map (·.2))).length = σ8.length := by rw [← hw8, wipe_length]
      have hk8 : ∀ (j : Nat) v, (wipe σ (own.map (·.2)))[j]? = some (some v) → σ8[j]? = some (some v) := fun j v e => by
        rw [← hw8] at e
        exact (wipe_some e).1
      cases b with
      | false =>
        simp only [Bool.false_eq_true, if_false] at q9 ⊢
        exact fin I9 hl8 hk8 q9
      | true =>
        simp only [if_true] at q9 ⊢
        refine thnF (pe.run _ s9 σ8 H9 _ I9 q9) fun z s27 ⟨yv, H27, I27, r27, acc, hD27, hz27, nx⟩ => ?_
        exact app_ok (X := X.blkH s3 H3 scope ce fp) I27 hD27 hz27 r27 fun s28 I28 => fin I28 hl8 hk8 nx
  exact codeAny_compStart_list loop (T.self X.A 0 _ _ _ st4 loop)
theorem pe_lcH {elt tg iter : Expr} {ifs : List Expr} {scope : Scope} {own : List (Str × Nat)} {pos : Pos} {wi : TI} {g : TG} {tt : TT} {te : TE} (hc : L2H.HotC X) (hN : X.N.Nodup) (hi : L2H.PIH X tg iter wi) (ok : BlkOk X.N X.env.scope scope own)
    (hg : ∀ (s : Shared) (H : Hp) (C : Addr) (cl : List (Str × Addr)) (fp : List Addr), PG (X.blkH s H scope (compEnvC scope cl C X.env) fp) tg g) (ht : ∀ (s : Shared) (H : Hp) (C : Addr) (cl : List (Str × Addr)) (fp : List Addr), PTs (X.blkH s H scope (compEnvC scope cl C X.env) fp) ifs tt)
    (he : ∀ (s : Shared) (H : Hp) (C : Addr) (cl : List (Str × Addr)) (fp : List Addr), PE (X.blkH s H scope (compEnvC scope cl C X.env) fp) elt te) (hs : ∀ x, foldedSetIterable iter X.env x = pure x := by intro _; rfl) :
    PE X (.ListComp elt [⟨tg, iter, ifs, 0⟩] scope pos) (tLc wi g tt te (own.map (·.2))) := by
  refine ⟨fun pins s σ H Q I h => ?_⟩
  rw [eval_ListComp]
  refine lc_coreH hc hN I hi ok hg ht he hs h fun D C s' m H' I' q hn f => ⟨m, hn, fun h'' sb => ?_⟩
  obtain ⟨f0, f1, f2, f3, f4, f5⟩ := f
  exact ⟨.ref D, H', I'.turned (t' := s'.toks) (fun b o hb e => (sb.2 b hb).trans e) f0 f1 f3 f4 f5, rfl, q⟩
end
end L2
namespace DL
open PySem PySem.Spec PyProof.Rows L2
def HotO (x1 : Addr) (h : Heap) : Prop := ∃ o vs, h.get? x1 = some o ∧ o.data = Data.fields vs ∧ vs[2]? = some Value.none
theorem walks_listH {P : Program} {w : World} {A : Around} {x1 : Addr} (hh : A.handled = some (.ref x1)) (I ax : Addr) (hne : ax ≠ I) (hx : x1 ≠ I) (items : Array Value) :
    Walks P w A I [I, ax, x1] [I] items.size (fun i v => items[i]? = some v) (fun i h => (h.IsListIter I ax i ∧ h.IsList ax items) ∧ HotO x1 h) where
  sub := fun b hb => by
    cases List.mem_singleton.mp hb
    exact List.mem_cons_self
  frame := fun i h h' st hk => by
    obtain ⟨⟨s1, s2⟩, o, vs, g, d, c⟩ := st
    exact ⟨⟨s1.at fun o e => hk I (by simp) o e, s2.at fun o e => hk ax (by simp) o e⟩, o, vs, hk x1 (by simp) o g, d, c⟩
  item := fun i s Q E hi st hQ => by
    obtain ⟨⟨s1, s2⟩, o, vs, g, d, c⟩ := st
    refine wpAny_pyNext_list_item s1 s2 (Array.getElem?_eq_getElem hi) fun h' hit' hs' => ?_
    refine hQ items[i] h' s.toks (Array.getElem?_eq_getElem hi) ⟨⟨hit', s2.extBut hs'.extBut hne⟩, o, vs, hs'.extBut x1 o hx g, d, c⟩ fun b o hb e => ?_
    exact hs'.extBut b o (fun z => hb (by simp [z])) e
  done := fun s Q E st hQ => by
    obtain ⟨⟨s1, s2⟩, o, vs, g, d, c⟩ := st
    exact next_list_hot ⟨hh, o, vs, g, d, c⟩ hx s1 s2 (by simp) fun h' he => hQ h' s.toks fun b o hb e => he b o (fun z => hb (by simp [z])) e
  self := fun i s Q E st hQ => wpAny_pyIter_listiter st.1.1 hQ
theorem cr_allH {X : Cx} (hc : L2H.HotC X) : CallR X (.builtin "all") (rAll X.K) := fun pins s σ H vs us Q I r h => by
  obtain ⟨a, bs, rfl, hs, q⟩ := h
  obtain ⟨its, rv, hl, hz⟩ := I.list hs
  rw [Vals.ref1 r]
  have hb := Vals.bls rv
  obtain ⟨x1, ⟨hh, hot⟩, _⟩ := hot_at hc I
  have lx : x1 < s.heap.objs.size := by
    obtain ⟨o, vs, g, _⟩ := hot
    exact Heap.lt_size g
  refine call_all_walk (iter_any hl.isList fun s₂ e2 st hne => ?_)
  subst e2
  have hot2 : HotO x1 (s.heap.push { cls := Value.type "list_iterator", data := Data.fields #[Value.ref a, Value.int 0 0] }) := by
    obtain ⟨o, vs, g, d, c⟩ := hot
    exact ⟨o, vs, Heap.get?_push_of_some _ g, d, c⟩
  refine ⟨s.heap.objs.size, _, [s.heap.objs.size], its.toArray.size, fun i v => its.toArray[i]? = some v, _, fun i => bs.getD i false, rfl, walks_listH (A := X.A.in1) hh s.heap.objs.size a hne (Nat.ne_of_lt lx) its.toArray, ⟨st, hot2⟩, truth_bools hb, fun h' tk hk => ?_⟩
  have J : L2.Inv X pins σ H { s with heap := h', toks := tk } := I.kept fun b o eo => by
    refine hk b o (fun hm => ?_) (Heap.get?_push_of_some _ eo)
    rw [List.mem_singleton.mp hm] at eo
    exact absurd (Heap.lt_size eo) (Nat.lt_irrefl _)
  refine ⟨.bl (bs.all id), H, J, ?_, q⟩
  show Value.bool _ = Value.bool _
  rw [← L2.all_range bs, hb]
  simp
end DL
namespace DL
open PySem PySem.Spec PyProof.Rows L2
section
variable {P : Program} {w : World} {A : Around} {E : Value → Shared → Prop}
theorem unpackItems_hot {s : Shared} {t x1 : Addr} {items : Array Value} {Q : List Value → Shared → Prop} (hot : HotX.HotAt A x1 s.heap) (ht : IsTup s.heap t items) (hQ : ∀ h' : Heap, Heap.ExtBut s.heap.objs.size s.heap h' → Q items.toList { s with heap := h' }) : wpAny (model P w) A (unpackItems (.ref t) items.size none) Q E s := by
  have hlt : t ≠ s.heap.objs.size := by
    obtain ⟨o, ho, _⟩ := ht
    exact Nat.ne_of_lt (Heap.lt_size ho)
  obtain ⟨hh, o1, vs1, g1, d1, c1⟩ := hot
  have hx1 : x1 ≠ s.heap.objs.size := Nat.ne_of_lt (Heap.lt_size g1)
  unfold unpackItems
  refine wpAny_bind (id (wpAny_bind (wpAny_specialOf ht.typeIs slot_tuple_iter.lookup (wpAny_pure ?_))))
  refine id (wpAny_ite_false (by rfl) ?_)
  refine wpAny_bind (wpAny_holding (iter_tuple ht ?_))
  refine wpAny_bind (wpAny_holding (draw_tuple hlt items.size 0 _ _ ⟨_, Heap.get?_push_size _ rfl, rfl, rfl⟩ (ht.push _) (by omega) fun h₁ hit₁ hs₁ => ?_))
  have hall : (items.toList.drop 0).take items.size = items.toList := by
    rw [List.drop_zero]
    exact List.take_of_length_le (by simp)
  rw [hall]
  refine wpAny_ite_false (by simp) ?_
  have ht₁ : IsTup h₁ t items := (ht.push { cls := Value.type "tuple_iterator", data := Data.fields #[Value.ref t, Value.int 0 0] }).extBut hs₁.extBut hlt
  have g2 : h₁.get? x1 = some o1 := hs₁.extBut x1 o1 hx1 (Heap.get?_push_of_some _ g1)
  refine wpAny_bind (wpAny_holding (next_tuple_hot (s := { s with heap := h₁ }) ⟨hh, o1, vs1, g2, d1, c1⟩ hx1 hit₁ ht₁ (by simp) fun h₂ he₂ => ?_))
  refine wpAny_ite_false (by simp) ?_
  exact wpAny_pure (hQ h₂ fun b o hb e => he₂ b o hb (hs₁.extBut b o hb (Heap.get?_push_of_some _ e)))
theorem unpack_hot {s : Shared} {t x1 : Addr} {items : Array Value} {targets : List (Bool × (Value → Sem Unit))} {Q : Unit → Shared → Prop} (hot : HotX.HotAt A x1 s.heap) (ht : IsTup s.heap t items) (hn : targets.length = items.size) (hstar : targets.findIdx? (·.1) = none)
    (h : ∀ h' : Heap, Heap.ExtBut s.heap.objs.size s.heap h' → wpAny (model P w) A (assignInOrder (targets.map (·.2)) items.toList) Q E { s with heap := h' }) : wpAny (model P w) A (unpack (.ref t) targets) Q E s := by
  unfold unpack
  rw [hn, hstar]
  exact wpAny_bind (wpAny_holding (unpackItems_hot hot ht h))
theorem assign_tup_hot {s : Shared} {env : Env} {elts : List Expr} {k : Nat} {pos : Pos} {t x1 : Addr} {items : Array Value} {Q : Unit → Shared → Prop} (hot : HotX.HotAt A x1 s.heap) (ht : IsTup s.heap t items) (hn : (assignEach elts env).length = items.size) (hstar : (assignEach elts env).findIdx? (·.1) = none)
    (h : ∀ h' : Heap, Heap.ExtBut s.heap.objs.size s.heap h' → wpAny (model P w) A (assignInOrder ((assignEach elts env).map (·.2)) items.toList) Q E { s with heap := h' }) : wpAny (model P w) A (assign (.Tuple elts k pos) env (.ref t)) Q E s := by
  rw [assign_Tuple]
  exact wpAny_bind (wpAny_standAt (unpack_hot hot ht hn hstar h))
end
theorem pg_tupH {X : Cx} {es : List Expr} {k : Nat} {pos : Pos} {t : TGs} {n : Nat} (hc : L2H.HotC X) (h : PGs X es t) (hn : (assignEach es X.env).length = n := by rfl) (hst : (assignEach es X.env).findIdx? (·.1) = none := by rfl) : PG X (.Tuple es k pos) (gTup X.K n t) := ⟨fun pins s σ H v u Q I r ⟨a, xs, e1, hq, hl, hw⟩ => by
  subst e1
  cases (show u = Value.ref a from r)
  obtain ⟨its, rv, ht, hz⟩ := I.tuple hq
  obtain ⟨x1, hot, _⟩ := hot_at hc I
  refine assign_tup_hot hot ht (by rw [hn, ← hl, rv.length]; simp) hst fun h' hx => ?_
  have I1 : L2.Inv X pins σ H { s with heap := h' } := I.kept (t' := s.toks) fun b o e => hx b o (Nat.ne_of_lt (Heap.lt_size e)) e
  exact h.run pins { s with heap := h' } σ H xs _ Q I1 (by simpa using rv) hw⟩
end DL
namespace DL
open PySem PySem.Spec PyProof.Rows L2
theorem ps_try_hot {X : Cx} {x : Str} {c : Value} {body suite : List Stmt} {b₀ : Stmt} {np pos pos' : Pos} {tb : WX → TS} {ts : Addr → Value → Option Addr → TS} {Wout : WX} (hs : X.stack = X.env :: X.outer) (hf : X.env.frame = some X.env.locals) (hc : Names X x c) (tk : Takes X Wout)
    (hb : ∀ (W : WX) (pn : List (Addr × Obj)) (xe : Value → Shared → Prop), (∀ q ∈ X.pn, q ∈ pn) → Takes (X.tr pn xe) W → PassesOwn (model X.prog X.w) X.A X.env xe → PSs (X.tr pn xe) body (tb W))
    (hsu : ∀ (a : Addr) (oe : Obj) (cls : Value) (d : Option Addr) (pn : List (Addr × Obj)), Zc cls d oe → (∃ vs, oe.data = Data.fields vs) → PSs (X.suite a ((a, oe) :: pn)) (b₀ :: suite) (ts a cls d)) :
    PS X (Stmt.Try body [ExceptHandler.ExceptHandler (some (Expr.Name x np)) none (b₀ :: suite) pos'] [] [] pos) fun D σ H => tb (wOnly X.K c ts Wout D) D σ H := ⟨fun pins s σ H D I h => by
  have ok := I.ok
  have hfr := ok.frames
  rw [hs] at hfr
  refine wpAny_Try_except (wpAny_mono ((hb (wOnly X.K c ts Wout D) (X.pn ++ pins) (fun e s₁ => wpAny (model X.prog X.w) X.A (noteFrame e X.env) (fun _ s₂ => wpAny (model X.prog X.w) X.A (setFlight e none) (fun _ s₃ => wpAny (model X.prog X.w) X.A (handleBy e X.env [ExceptHandler.ExceptHandler (some (Expr.Name x np)) none (b₀ :: suite) pos']) (SP X pins D) X.xe s₃) X.xe s₂) X.xe s₁) (fun q hq => List.mem_append_left _ hq) ?_ PassesOwn.looking).run [] s σ H D (Inv.toTry I _) h) ?_ fun e s1 he => he)
  · rintro u s' ⟨a, B, sI, pins', σ', H', cls, d, rfl, J', nb, up, sky, na, os, ag, b, hb1, hyes, hno⟩
    have J := Inv.ofTry J' ok
    have sky' : Sky B (X.env :: X.outer) a (Zc cls d) X.env.locals s'.heap := by rw [← hs]; exact sky
    refine Sky.land Zc.steady hfr hf sky' fun h3 fl3 up3 => ?_
    have J3 : L2.Inv X pins σ' H' { s' with heap := h3 } := Inv.landed J nb fl3.1 (Heap.UpToSlots.trans up up3) os ag
    obtain ⟨oe3, vs3, he3, hz3, hd3⟩ := HandSPX.FlyingZ.there fl3
    have nfr : ¬ a ∈ frs (X.env :: X.outer) := fun hm => by
      obtain ⟨_, o', e', hnf⟩ := Heap.FunFrames.mem fl3.2.2.1 hm
      rw [he3] at e'
      cases e'
      exact hnf vs3 hd3
    have nL : ¬ X.env.locals = a := fun z => nfr (List.mem_filterMap.mpr ⟨X.env, List.mem_cons_self, by rw [hf, z]⟩)
    have nL' : ¬ a = X.env.locals := fun z => nL z.symm
    have nF : ¬ a ∈ X.fs := fun hm => by
      obtain ⟨e, he, q⟩ := List.mem_filterMap.mp hm
      exact nfr (List.mem_filterMap.mpr ⟨e, List.mem_cons_of_mem _ he, q⟩)
    refine wpAny_handleBy_cons (codeAny_handlers_test ?_) ?_
    · have S3 := Inv.suite J3 he3 hd3 na (by first | exact nL | exact nL') nF
      have LT : ∀ (A : Around) (Q : Value → Shared → Prop) (E : Value → Shared → Prop) (s : Shared), (∀ b o, h3.get? b = some o → s.heap.get? b = some o) → Q cls s → wpAny (model X.prog X.w) A (typeOf (.ref a)) Q E s := fun A Q E s k q => wpAny_typeOf_ref (k a oe3 he3) (by rw [hz3.1]; exact q)
      have LM := W.exm_one (Inv.kIn J3) LT hb1
      have test : ∀ {Q : Value → Shared → Prop} {E : Value → Shared → Prop}, Q c { s' with heap := h3 } → wpAny (model X.prog X.w) (X.A.mark (some (.ref a))) (eval (.Name x np) X.env) Q E { s' with heap := h3 } := fun {Q E} q => by
        obtain ⟨hg, hdbg, hm | ⟨hm, hv, hnn⟩⟩ := hc
        · exact ld_glob S3 hg hm q hdbg
        · exact ld_blt S3 hg hm hv q hnn hdbg
      refine test (W.Looks.here LM ?_)
      cases b with
      | false =>
        refine wpAny_handleBy_nil ?_
        obtain ⟨k1, k2, k3, oe, vs, T, oT, ts', he, hz, hd, h1, hr⟩ := id fl3
        refine wpAny_bind (wpAny_field he hd h1 ?_)
        rw [if_neg (by simp)]
        refine wpAny_bind ?_
        rw [hf]
        exact HandSPX.setFlight_upZ fl3 fun h4 hh4 up4 => wpAny_throw (tk (Value.ref a) _ ⟨a, B, sI, pins, σ', H', cls, d, rfl, J, nb, Heap.UpToSlots.trans (Heap.UpToSlots.trans up up3) up4, Or.inr (Or.inr (by rw [hs]; exact hh4)), na, os, ag, hno rfl⟩)
      | true =>
        refine codeAny_handlers_suite (HandSPX.lands_againZ fl3 fun h4 fl4 up4 => ?_)
        have J4 : L2.Inv X pins σ' H' { s' with heap := h4 } := Inv.landed J nb fl4.1 (Heap.UpToSlots.trans (Heap.UpToSlots.trans up up3) up4) os ag
        obtain ⟨oe4, vs4, he4, hz4, hd4⟩ := HandSPX.FlyingZ.there fl4
        have S4 := Inv.suite J4 he4 hd4 na (by first | exact nL | exact nL') nF
        refine wpAny_mono ((hsu a oe4 cls d (X.pn ++ pins) hz4 ⟨vs4, hd4⟩).run [] _ σ' H' D S4 (hyes rfl a na)) (fun f s6 hsp => ?_) fun _ _ z => z.elim
        cases f with
        | ret u =>
          obtain ⟨v6, σ6, H6, S6, r6, q6⟩ := hsp
          exact ⟨v6, σ6, H6, Inv.unsuite S6 ok, r6, q6⟩
        | _ =>
          obtain ⟨σ6, H6, S6, q6⟩ := hsp
          exact ⟨σ6, H6, Inv.unsuite S6 ok, q6⟩
    · intro q
      cases q
  · intro f s1 hsp
    cases f with
    | next =>
      obtain ⟨σ', H', J', q⟩ := hsp
      exact wpAny_execs_nil ⟨σ', H', Inv.ofTry J' ok, q⟩
    | ret u =>
      obtain ⟨v, σ', H', J', r, q⟩ := hsp
      exact ⟨v, σ', H', Inv.ofTry J' ok, r, q⟩
    | _ =>
      obtain ⟨σ', H', J', q⟩ := hsp
      exact ⟨σ', H', Inv.ofTry J' ok, q⟩⟩
end DL
namespace DL
open PySem PySem.Spec PyProof.Rows L2
section
variable {P : Program} {w : World} {A : Around} {E : Value → Shared → Prop}
theorem nextOf_list_hot {s : Shared} {it l x1 : Addr} {i : Nat} {items : Array Value} {Q : Value → Shared → Prop} (hot : HotX.HotAt A x1 s.heap) (hne : x1 ≠ it) (hit : s.heap.IsListIter it l i) (hl : s.heap.IsList l items) (hx : items[i]? = none)
    (h : ∀ (h' : Heap) (e : Addr), Heap.ExtBut it s.heap h' → (∃ o, h'.get? e = some o ∧ o.cls = Value.type "StopIteration") → E (.ref e) { s with heap := h' }) : wpAny (model P w) A (Builtin.SmallTypes.nextOf (Value.ref it)) Q E s := by
  obtain ⟨hh, o1, vs1, h1, d1, c1⟩ := hot
  have hT := hit.typeIs
  unfold Builtin.SmallTypes.nextOf
  obtain ⟨o, ho, hc, hd⟩ := id hit
  obtain ⟨ol, hol, hcl, nl, hdl⟩ := hl
  refine id (wpAny_bind (wpAny_callSpecial?_slot hT slot_listiter_next (wpAny_call_entry slot_listiter_next hT entry_listiter_next ?_ (args_listiter_next (Value.ref it)))))
  refine id (wpAny_bind ?_)
  unfold slotArgs
  refine wpAny_ite_false (by rfl) ?_
  refine id (wpAny_ite_false (by rfl) (wpAny_pure ?_))
  refine id (wpAny_bind (wpAny_field ho hd rfl ?_))
  refine id (wpAny_ite_false (by rfl) ?_)
  refine id (wpAny_bind (wpAny_field ho hd rfl ?_))
  refine id (wpAny_bind (wpAny_seqItems hol hdl ?_))
  have e : items[((i : Int)).toNat]? = none := by simpa using hx
  simp only [e]
  refine wpAny_bind (wpAny_rule (wpAny_bind (wpAny_setField ho hd (by show 0 < 2; omega) ?_)))
  have g1 : (s.heap.update it (Obj.mapFields fun x => x.setIfInBounds 0 Value.none)).get? x1 = some o1 := by
    rw [Heap.get?_update_other _ _ (Ne.symm hne)]
    exact h1
  refine id (stop_hot (A := A.in1) (s := { s with heap := s.heap.update it (Obj.mapFields fun x => x.setIfInBounds 0 Value.none) }) ⟨hh, o1, vs1, g1, d1, c1⟩ fun a h' kp ⟨oe, he, ce⟩ => ?_)
  refine h h' a (fun b ob hb eb => ?_) ⟨oe, he, ce⟩
  refine kp b ob ?_
  rw [Heap.get?_update_other _ _ (Ne.symm hb)]
  exact eb
theorem nextOf_tuple_hot {s : Shared} {it l x1 : Addr} {i : Nat} {items : Array Value} {Q : Value → Shared → Prop} (hot : HotX.HotAt A x1 s.heap) (hne : x1 ≠ it) (hit : s.heap.IsTupleIter it l i) (hl : s.heap.IsTuple l items) (hx : items[i]? = none)
    (h : ∀ (h' : Heap) (e : Addr), Heap.ExtBut it s.heap h' → (∃ o, h'.get? e = some o ∧ o.cls = Value.type "StopIteration") → E (.ref e) { s with heap := h' }) : wpAny (model P w) A (Builtin.SmallTypes.nextOf (Value.ref it)) Q E s := by
  obtain ⟨hh, o1, vs1, h1, d1, c1⟩ := hot
  have hT := hit.typeIs
  unfold Builtin.SmallTypes.nextOf
  obtain ⟨o, ho, hc, hd⟩ := id hit
  obtain ⟨ol, hol, hcl, nl, hdl⟩ := hl
  refine id (wpAny_bind (wpAny_callSpecial?_slot hT F.slot_tuple_iterator_next (wpAny_call_entry F.slot_tuple_iterator_next hT F.entry_tuple_iterator_next ?_ (F.args_tuple_iterator_next_1 (Value.ref it)))))
  refine id (wpAny_bind ?_)
  unfold slotArgs
  refine wpAny_ite_false (by rfl) ?_
  refine id (wpAny_ite_false (by rfl) (wpAny_pure ?_))
  refine id (wpAny_bind (wpAny_field ho hd rfl ?_))
  refine id (wpAny_ite_false (by rfl) ?_)
  refine id (wpAny_bind (wpAny_field ho hd rfl ?_))
  refine id (wpAny_bind (wpAny_seqItems hol hdl ?_))
  have e : items[((i : Int)).toNat]? = none := by simpa using hx
  simp only [e]
  refine wpAny_bind (wpAny_rule (wpAny_bind (wpAny_setField ho hd (by show 0 < 2; omega) ?_)))
  have g1 : (s.heap.update it (Obj.mapFields fun x => x.setIfInBounds 0 Value.none)).get? x1 = some o1 := by
    rw [Heap.get?_update_other _ _ (Ne.symm hne)]
    exact h1
  refine id (stop_hot (A := A.in1) (s := { s with heap := s.heap.update it (Obj.mapFields fun x => x.setIfInBounds 0 Value.none) }) ⟨hh, o1, vs1, g1, d1, c1⟩ fun a h' kp ⟨oe, he, ce⟩ => ?_)
  refine h h' a (fun b ob hb eb => ?_) ⟨oe, he, ce⟩
  refine kp b ob ?_
  rw [Heap.get?_update_other _ _ (Ne.symm hb)]
  exact eb
theorem drawsAH {x1 : Addr} (hh : A.handled = some (.ref x1)) (t : Bool) (it a : Addr) (hne : a ≠ it) (hx : x1 ≠ it) (items : Array Value) : Draws P w A it [it, a, x1] items.size (fun i v => items[i]? = some v) fun i h => (IterA h t it a i ∧ IsA h t a items) ∧ HotO x1 h := by
  cases t
  · refine ⟨fun i h st => ?_, fun i h h' st hk => ?_, fun i s Q E hi st hQ => ?_, fun s Q E st hE => ?_⟩
    · obtain ⟨⟨⟨o, ho, _⟩, _⟩, _⟩ := st
      exact ⟨o, ho⟩
    · obtain ⟨⟨s1, s2⟩, o, vs, g, d, c⟩ := st
      have s1 : Heap.IsListIter h it a i := s1
      have s2 : Heap.IsList h a items := s2
      exact ⟨⟨s1.at fun o e => hk it (by simp) o e, s2.at fun o e => hk a (by simp) o e⟩, o, vs, hk x1 (by simp) o g, d, c⟩
    · obtain ⟨⟨s1, s2⟩, o, vs, g, d, c⟩ := st
      have s1 : Heap.IsListIter s.heap it a i := s1
      have s2 : Heap.IsList s.heap a items := s2
      refine wpAny_nextOf_list_item s1 s2 (Array.getElem?_eq_getElem hi) fun h' hit' hs' => ?_
      exact hQ items[i] h' s.toks (Array.getElem?_eq_getElem hi) ⟨⟨hit', s2.extBut hs'.extBut hne⟩, o, vs, hs'.extBut x1 o hx g, d, c⟩ hs'
    · obtain ⟨⟨s1, s2⟩, o, vs, g, d, c⟩ := st
      exact nextOf_list_hot ⟨hh, o, vs, g, d, c⟩ hx s1 s2 (by simp) hE
  · refine ⟨fun i h st => ?_, fun i h h' st hk => ?_, fun i s Q E hi st hQ => ?_, fun s Q E st hE => ?_⟩
    · obtain ⟨⟨⟨o, ho, _⟩, _⟩, _⟩ := st
      exact ⟨o, ho⟩
    · obtain ⟨⟨s1, s2⟩, o, vs, g, d, c⟩ := st
      have s1 : Heap.IsTupleIter h it a i := s1
      have s2 : Heap.IsTuple h a items := s2
      exact ⟨⟨s1.at fun o e => hk it (by simp) o e, s2.at fun o e => hk a (by simp) o e⟩, o, vs, hk x1 (by simp) o g, d, c⟩
    · obtain ⟨⟨s1, s2⟩, o, vs, g, d, c⟩ := st
      have s1 : Heap.IsTupleIter s.heap it a i := s1
      have s2 : Heap.IsTuple s.heap a items := s2
      refine wpAny_nextOf_tuple_item s1 s2 (Array.getElem?_eq_getElem hi) fun h' hit' hs' => ?_
      exact hQ items[i] h' s.toks (Array.getElem?_eq_getElem hi) ⟨⟨hit', s2.extBut hs'.extBut hne⟩, o, vs, hs'.extBut x1 o hx g, d, c⟩ hs'
    · obtain ⟨⟨s1, s2⟩, o, vs, g, d, c⟩ := st
      exact nextOf_tuple_hot ⟨hh, o, vs, g, d, c⟩ hx s1 s2 (by simp) hE
end
theorem sepH {z TI TO i1 i2 a b x1 : Addr} (D : ZipSep2 z TI TO i1 i2 [i1, a] [i2, b]) (hz : x1 ≠ z) (hO : x1 ≠ TO) (h1 : x1 ≠ i1) (h2 : x1 ≠ i2) : ZipSep2 z TI TO i1 i2 [i1, a, x1] [i2, b, x1] := by
  have q1 := D.zf1
  have q2 := D.zf2
  have q3 := D.Tf1
  have q4 := D.Tf2
  have q5 := D.sep1_2
  have q6 := D.sep2_1
  simp only [List.mem_cons, List.not_mem_nil, or_false, not_or] at q1 q2 q3 q4 q5 q6
  refine ⟨D.TIz, D.TOz, D.TITO, D.TIi1, by simp, ?_, ?_, D.TIi2, by simp, ?_, ?_, ?_, ?_⟩
  all_goals simp only [List.mem_cons, List.not_mem_nil, or_false, not_or]
  · exact ⟨q1.1, q1.2, Ne.symm hz⟩
  · exact ⟨q3.1, q3.2, Ne.symm hO⟩
  · exact ⟨q2.1, q2.2, Ne.symm hz⟩
  · exact ⟨q4.1, q4.2, Ne.symm hO⟩
  · exact ⟨q5.1, q5.2, Ne.symm h1⟩
  · exact ⟨q6.1, q6.2, Ne.symm h2⟩
theorem turn_A2H {P : Program} {w : World} {K : PySem.W.Frag} {elts : List Expr} {kk : Nat} {tpos : Pos} {t1 t2 : Bool} {a b z TI TO i1 i2 : Addr} (D : ZipSep2 z TI TO i1 i2 [i1, a] [i2, b]) (ha : a ≠ i1) (hb : b ≠ i2) :
    L2H.TurnH P w K (.Tuple elts kk tpos) (ItA2 K t1 a t2 b) [z, TI, TO, i1, i2] z (fun i h => IsZip h z TI TO .none ∧ IsTupOf2 h TI (.ref i1) (.ref i2) ∧ (∃ x y, IsTupOf2 h TO x y) ∧ IterA h t1 i1 a i ∧ IterA h t2 i2 b i) where
  mem := List.mem_cons_self
  obj := fun i h ⟨q1, q2, ⟨_, _, q3⟩, q4, q5⟩ c hc => by
    rcases (show c = z ∨ c = TI ∨ c = TO ∨ c = i1 ∨ c = i2 by simpa using hc) with e | e | e | e | e
    · exact e ▸ ⟨_, q1, fun v q => nomatch q⟩
    · exact e ▸ ⟨_, q2, fun v q => nomatch q⟩
    · exact e ▸ ⟨_, q3, fun v q => nomatch q⟩
    · exact e ▸ iterA_obj q4
    · exact e ▸ iterA_obj q5
  keep := fun i h h2 ⟨q1, q2, ⟨x, y, q3⟩, q4, q5⟩ k => ⟨k z (by simp) _ q1, k TI (by simp) _ q2, ⟨x, y, k TO (by simp) _ q3⟩, iterA_at q4 (k i1 (by simp)), iterA_at q5 (k i2 (by simp))⟩
  item := fun X hP hw hK hc i pins s σ H E I hf ⟨q1, q2, ⟨x0, y0, q3⟩, q4, q5⟩ ⟨xs, ys, x, y, sx, sy, hx, hy⟩ => by
    subst hP hw hK
    obtain ⟨its1, rv1, p1, _⟩ := invA I sx
    obtain ⟨its2, rv2, p2, _⟩ := invA I sy
    obtain ⟨u1, e1, r1, l1⟩ := getA rv1 hx
    obtain ⟨u2, e2, r2, l2⟩ := getA rv2 hy
    obtain ⟨x1, ⟨hh, ho1⟩, ap⟩ := hot_at hc I
    have apz := ap z (hf z (by simp))
    have apTO := ap TO (hf TO (by simp))
    have ap1 := ap i1 (hf i1 (by simp))
    have ap2 := ap i2 (hf i2 (by simp))
    have D1 := sepH D apz apTO ap1 ap2
    refine wpAny_pyNext_zipD2_item D1 (drawsAH (A := X.A.in1) hh t1 i1 a ha ap1 its1.toArray) (drawsAH (A := X.A.in1) hh t2 i2 b hb ap2 its2.toArray) q1 q2 q3 ⟨⟨q4, p1⟩, ho1⟩ ⟨⟨q5, p2⟩, ho1⟩ l1 l2 fun v1 v2 h2 tk w1 w2 hz hTO s1 s2 hT hsz hk => ?_
    have ev1 : v1 = u1 := by rw [e1] at w1; cases w1; rfl
    have ev2 : v2 = u2 := by rw [e2] at w2; cases w2; rfl
    subst ev1 ev2
    have lf : ∀ c ∈ [z, TI, TO, i1, i2], c < s.heap.objs.size := by
      intro c hc'
      rcases (show c = z ∨ c = TI ∨ c = TO ∨ c = i1 ∨ c = i2 by simpa using hc') with e | e | e | e | e
      · exact e ▸ Heap.lt_size q1
      · exact e ▸ Heap.lt_size q2
      · exact e ▸ Heap.lt_size q3
      · obtain ⟨o, g, _⟩ := iterA_obj q4; exact e ▸ Heap.lt_size g
      · obtain ⟨o, g, _⟩ := iterA_obj q5; exact e ▸ Heap.lt_size g
    refine ⟨_, rfl, wpAny_letOwnedTupleGo_zip (s := { s with heap := h2, toks := tk }) hz fun h3 hz3 sb => ?_⟩
    have nz : s.heap.objs.size ≠ z := Nat.ne_of_gt (lf z (by simp))
    have hT3 : h3.get? s.heap.objs.size = some { cls := .type "tuple", data := .seq #[v1, v2] } := (sb.2 _ nz).trans hT
    have new : ObjOk X.prog X.w (upd H s.heap.objs.size (.tup [x, y])) h3 s.heap.objs.size (.tup [x, y]) := ⟨by show 2 ≤ sizeLine; decide, [v1, v2], .cons r1 (.cons r2 .nil), ⟨_, hT3, rfl, _, rfl⟩⟩
    have TIz : TI ≠ z := D.TIz
    have TOz : TO ≠ z := D.TOz
    have i1z : i1 ≠ z := fun q => D.zf1 (by rw [← q]; simp)
    have i2z : i2 ≠ z := fun q => D.zf2 (by rw [← q]; simp)
    have I1 : L2.Inv X pins σ (upd H s.heap.objs.size (.tup [x, y])) { s with heap := h3, toks := tk } :=
      I.turnedNew (ch := [z, TI, TO, i1, i2]) (fun c o hc' q => (sb.2 c (fun e => hc' (by simp [e]))).trans (hk c o (fun e => hc' (by simp [e])) (fun e => hc' (by simp [e])) (fun e => hc' (by simp [e])) (fun e => hc' (by simp [e])) q)) hf (Nat.le_refl _) new
    have TI2 : IsTupOf2 h2 TI (.ref i1) (.ref i2) := hk TI _ TIz D.TITO D.TIi1 D.TIi2 q2
    refine ⟨.ref s.heap.objs.size, _, I1, rfl, ⟨_, x, y, rfl, I.hok.fresh (Nat.le_refl _), rfl, fun xs' h => by rw [injA I h sx]; exact hx, fun ys' h => by rw [injA I h sy]; exact hy⟩, ⟨hz3, (sb.2 TI TIz).trans TI2, ⟨v1, v2, (sb.2 TO TOz).trans hTO⟩, iterA_at s1.1.1 fun o q => (sb.2 i1 i1z).trans q, iterA_at s2.1.1 fun o q => (sb.2 i2 i2z).trans q⟩, fun c hc' => ?_⟩
    rw [upd_ne (Nat.ne_of_lt (lf c hc'))]
    exact (hf c hc').1
  done := fun X hP hw hK hc i pins s σ H E I hf ⟨q1, q2, ⟨x0, y0, q3⟩, q4, q5⟩ ⟨xs, ys, sx, sy, l1, l2, l3⟩ => by
    subst hP hw hK
    obtain ⟨its1, rv1, p1, _⟩ := invA I sx
    obtain ⟨its2, rv2, p2, _⟩ := invA I sy
    obtain ⟨x1, ⟨hh, ho1⟩, ap⟩ := hot_at hc I
    have apz := ap z (hf z (by simp))
    have apTO := ap TO (hf TO (by simp))
    have ap1 := ap i1 (hf i1 (by simp))
    have ap2 := ap i2 (hf i2 (by simp))
    have D1 := sepH D apz apTO ap1 ap2
    have g1 := rv1.length
    have g2 := rv2.length
    exact wpAny_pyNext_zipD2_end D1 (drawsAH (A := X.A.in1) hh t1 i1 a ha ap1 its1.toArray) (drawsAH (A := X.A.in1) hh t2 i2 b hb ap2 its2.toArray) q1 q2 q3 ⟨⟨q4, p1⟩, ho1⟩ ⟨⟨q5, p2⟩, ho1⟩ (by simp; omega) (by simp; omega) (by simp; omega) fun h2 tk hk => ⟨rfl, I.turnedL (ch := [z, TI, TO, i1, i2]) (fun c o hc' q => hk c o (fun e => hc' (by simp [e])) (fun e => hc' (by simp [e])) (fun e => hc' (by simp [e])) (fun e => hc' (by simp [e])) q) hf⟩
  self := fun A i s Q E ⟨q1, _⟩ h => wpAny_pyIter_zip q1 h
section
variable {X : Cx} {G : Gx}
theorem pi_zip2H {e e2 : Expr} {ta : TA} {p pos tpos : Pos} {elts : List Expr} {kk : Nat} (hg : Gl X "zip") (hm : X.mg "zip" = none) (ha : PA X [e, e2] ta) (hs : starEach [e, e2] X.env = (false, eval e X.env) :: starEach [e2] X.env := by rfl) (hp : (backTo pos (starEach [e2] X.env)).any (·.1) = false := by rfl) :
    L2H.PIH X (.Tuple elts kk tpos) (.Call (.Name "zip" p) [e, e2] [] pos) (iZipA2 X.K ta) := ⟨fun pins s σ H R I h => by
  refine Call_ (ld_blt I hg hm boot_zip (PyProof.Rows.callWith_type1 (thn (ha.run pos pins s σ H _ I h) fun us s1 ⟨vs, H1, I1, r1, a, b, t1, t2, xs, ys, ex, sx, sy, q⟩ => ?_) hs hp))
  subst ex
  obtain ⟨u1, u2, rfl, ru1, ru2⟩ : ∃ u1 u2, us = [u1, u2] ∧ RelV (.ref a) u1 ∧ RelV (.ref b) u2 := by
    cases r1 with
    | cons x y =>
      cases y with
      | cons z t =>
        cases t
        exact ⟨_, _, rfl, x, z⟩
  cases ru1
  cases ru2
  obtain ⟨its1, rv1, p1, la⟩ := invA I1 sx
  obtain ⟨its2, rv2, p2, lb⟩ := invA I1 sy
  refine zip_begins2 (beginsA t1 a its1.toArray) (beginsA t2 b its2.toArray) p1 p2 fun h2 hz hTI hTO g1 g2 hsz hk => wpAny_pyIter_zip hz ?_
  have I2 : L2.Inv X pins σ H1 { s1 with heap := h2 } := I1.kept (t' := s1.toks) hk
  refine ⟨_, [s1.heap.objs.size + 4, s1.heap.objs.size + 2, s1.heap.objs.size + 3, s1.heap.objs.size, s1.heap.objs.size + 1], _, _, H1, rfl, I2, turn_A2H (t1 := t1) (t2 := t2) (zip_sep2 (N := s1.heap.objs.size) (fp1 := [a]) (fp2 := [b]) (by simpa using la) (by simpa using lb)) (Nat.ne_of_lt la) (Nat.ne_of_lt (Nat.lt_succ_of_lt lb)), ⟨hz, hTI, ⟨_, _, hTO⟩, iterA0 g1, iterA0 g2⟩, fun c hc => ?_, q⟩
  have big : s1.heap.objs.size ≤ c := by
    simp only [List.mem_cons, List.not_mem_nil, or_false] at hc
    rcases hc with e | e | e | e | e <;> rw [e] <;> first | exact Nat.le_refl _ | exact Nat.le_add_right _ _
  exact I1.fpOk big (I1.hok.fresh big)⟩
theorem di_zipH {a b : Expr} {p pos tpos : Pos} {elts : List Expr} {kk : Nat} {Fs : FA} (hK : X.K = G.K) (hm : X.mg "zip" = none) (ha : PA X [a, b] (tA G Fs)) (hg : Gl X "zip" := by rfl)
    (hs : starEach [a, b] X.env = (false, eval a X.env) :: starEach [b] X.env := by rfl) (hpl : (backTo pos (starEach [b] X.env)).any (·.1) = false := by rfl) : L2H.PIH X (.Tuple elts kk tpos) (.Call (.Name "zip" p) [a, b] [] pos) (tI G (fItA gZip Fs)) :=
  PIH_imp (pi_zip2H hg hm ha hs hpl) fun σ H R ⟨w, e, s, I, h⟩ => by
    rw [hK]
    refine ⟨w, e, s, I, holds_imp (holds_bind h) fun ds s1 h1 w1 vs H1 I1 x1 r1 => ?_⟩
    unfold gZip at h1
    split at h1
    · obtain ⟨v, v2, rfl, k, k2⟩ := rpl2 r1
      obtain ⟨p, xs, rfl, hp, rx⟩ := rp_list k
      obtain ⟨q, ys, rfl, hq, ry⟩ := rp_list k2
      exact ⟨p, q, false, false, xs, ys, rfl, sqF_A (t := false) Fz_sub hp, sqF_A (t := false) Fz_sub hq, h1 w1 H1 _ I1 x1 (wk_A2 (t1 := false) (t2 := false) hp rx hq ry)⟩
    · obtain ⟨v, v2, rfl, k, k2⟩ := rpl2 r1
      obtain ⟨p, xs, rfl, hp, rx⟩ := rp_tuple k
      obtain ⟨q, ys, rfl, hq, ry⟩ := rp_tuple k2
      exact ⟨p, q, true, true, xs, ys, rfl, sqF_A (t := true) Fz_sub hp, sqF_A (t := true) Fz_sub hq, h1 w1 H1 _ I1 x1 (wk_A2 (t1 := true) (t2 := true) hp rx hq ry)⟩
    · exact h1.elim
end
end DL
namespace L2
open PySem PySem.Spec PyProof.Rows DL
section
variable {X : Cx}
theorem lc2_coreH {pins : List (Addr × Obj)} {s : Shared} {σ : St} {H : Hp} {Q : VK} {elt tg iter tg1 iter1 : Expr} {ifs ifs1 : List Expr} {scope : Scope} {own : List (Str × Nat)} {vs1 : List Nat} {pos pos' : Pos} {wi wi1 : TI} {g g1 : TG} {tt tt1 : TT} {te : TE} {use : Option (Value → Sem Unit)} {Qf : Value → Shared → Prop}
    (hc : L2H.HotC X) (hN : X.N.Nodup) (I : Inv X pins σ H s) (hi : L2H.PIH X tg iter wi) (ok : BlkOk X.N X.env.scope scope own) (hv : ∀ i ∈ vs1, i ∈ own.map (·.2))
    (hg : ∀ (s : Shared) (H : Hp) (C : Addr) (cl : List (Str × Addr)) (fp : List Addr), PG (X.blkH s H scope (compEnvC scope cl C X.env) fp) tg g) (ht : ∀ (s : Shared) (H : Hp) (C : Addr) (cl : List (Str × Addr)) (fp : List Addr), PTs (X.blkH s H scope (compEnvC scope cl C X.env) fp) ifs tt)
    (he : ∀ (s : Shared) (H : Hp) (C : Addr) (cl : List (Str × Addr)) (fp : List Addr), PE (X.blkH s H scope (compEnvC scope cl C X.env) fp) elt te) (hs : ∀ x, foldedSetIterable iter X.env x = pure x)
    (hi1 : ∀ (s : Shared) (H : Hp) (C : Addr) (cl : List (Str × Addr)) (fp : List Addr), L2H.PIH (X.blkH s H scope (compEnvC scope cl C X.env) fp) tg1 iter1 wi1)
    (hg1 : ∀ (s : Shared) (H : Hp) (C : Addr) (cl : List (Str × Addr)) (fp : List Addr), PG (X.blkH s H scope (compEnvC scope cl C X.env) fp) tg1 g1)
    (ht1 : ∀ (s : Shared) (H : Hp) (C : Addr) (cl : List (Str × Addr)) (fp : List Addr), PTs (X.blkH s H scope (compEnvC scope cl C X.env) fp) ifs1 tt1)
    (hs1 : ∀ env x, foldedSetIterable iter1 env x = pure x)
    (h : tLc2 wi g tt wi1 g1 tt1 te (own.map (·.2)) vs1 σ H Q)
    (hRR : ∀ D C s' m H', Inv X pins σ H' s' → Q (.ref D) H' → s'.heap.Ns C m → FpOk X pins H' C → compPost (model X.prog X.w) X.A X.xe use Qf (.ref D) C (.ok .next) s') :
    wpAny (model X.prog X.w) X.A (comprehension (.ListComp elt [⟨tg, iter, ifs, 0⟩, ⟨tg1, iter1, ifs1, 0⟩] scope pos) scope X.env pos' (newList []) false (eval iter X.env) use) Qf X.xe s := by
  have hfree : ∀ y ∈ scope.names, y.2 = .free → ∃ c, X.env.cells.lookup y.1 = some c := fun y hy e => by
    rcases ok.free y hy e with k | k
    · exact I.ok.has _ (.inl k)
    · exact I.ok.has _ (.inr k)
  refine wpAny_comprehension_free (use := use) rfl hs (closure_ok hfree) ok.kind (fun y hy e => by rw [ok.uniq y hy, e])
    (thn (hi.run pins s σ H _ I h) fun xv s1 hx => thn hx fun itv s2 h2 => ?_)
  obtain ⟨it, fp, tn, J, H2, e, I2, T, st2, f2, q⟩ := h2
  subst e
  refine wpAny_newObj_type (newEnv_comp ?_) (by show 0 ≤ sizeLine; decide)
  generalize hD : s2.heap.objs.size = D
  have hDn : H2 D = none := I2.hok.fresh (Nat.le_of_eq hD)
  obtain ⟨W, ⟨m0, w0⟩, turn⟩ := q D hDn
  -- the new list
  generalize hs3 : ({ s2 with heap := s2.heap.push { cls := .type "list", data := .seq ([] : List Value).toArray } } : Shared) = s3
  have I3 : Inv X pins σ (upd H2 D (.lst [])) s3 := by
    rw [← hs3]
    refine I2.laid (t' := s2.toks) (fun b o e => Heap.get?_push_of_some _ e) (Nat.le_of_eq hD) ⟨Nat.zero_le _, [], 0, .nil, ?_⟩
    rw [← hD]
    exact Heap.get?_push_size _ rfl
  have h3 : s3.heap = s2.heap.push { cls := .type "list", data := .seq ([] : List Value).toArray } := by rw [← hs3]
  have sz : ∀ b ∈ fp, b < s2.heap.objs.size := fun b hb => by
    obtain ⟨o, e, _⟩ := T.obj _ _ st2 b hb
    exact Heap.lt_size e
  have f3 : ∀ b ∈ fp, FpOk X pins (upd H2 D (.lst [])) b ∧ b < s3.heap.objs.size := fun b hb => by
    have hlt := sz b hb
    refine ⟨⟨?_, (f2 b hb).2⟩, by rw [h3, Heap.size_push]; exact Nat.lt_succ_of_lt hlt⟩
    rw [upd_ne (by rw [← hD]; exact Nat.ne_of_lt hlt)]
    exact (f2 b hb).1
  have st3 : tn 0 s3.heap := T.keep _ _ _ st2 fun b _ o e => by rw [h3]; exact Heap.get?_push_of_some _ e
  have I4 := block_startH I3 ok hN f3
  have pg := hg s3 (upd H2 D (.lst [])) s3.heap.objs.size (cellsFrom (s3.heap.objs.size + 1) scope.names (cloFrom X.env.cells scope.names [])) fp
  have pt := ht s3 (upd H2 D (.lst [])) s3.heap.objs.size (cellsFrom (s3.heap.objs.size + 1) scope.names (cloFrom X.env.cells scope.names [])) fp
  have pe := he s3 (upd H2 D (.lst [])) s3.heap.objs.size (cellsFrom (s3.heap.objs.size + 1) scope.names (cloFrom X.env.cells scope.names [])) fp
  have pi1 := hi1 s3 (upd H2 D (.lst [])) s3.heap.objs.size (cellsFrom (s3.heap.objs.size + 1) scope.names (cloFrom X.env.cells scope.names [])) fp
  have pg1 := hg1 s3 (upd H2 D (.lst [])) s3.heap.objs.size (cellsFrom (s3.heap.objs.size + 1) scope.names (cloFrom X.env.cells scope.names [])) fp
  have pt1 := ht1 s3 (upd H2 D (.lst [])) s3.heap.objs.size (cellsFrom (s3.heap.objs.size + 1) scope.names (cloFrom X.env.cells scope.names [])) fp
  show codeAny _ _ (.compStart (.ListComp elt [⟨tg, iter, ifs, 0⟩, ⟨tg1, iter1, ifs1, 0⟩] scope pos) 0 (.ref it) (.ref D) (compEnvC scope (cellsFrom (s3.heap.objs.size + 1) scope.names (cloFrom X.env.cells scope.names [])) s3.heap.objs.size X.env)) (compPost (model X.prog X.w) X.A X.xe use Qf (.ref D) s3.heap.objs.size) { s3 with heap := pushCells (s3.heap.push { cls := .type "dict", data := .dict #[] }) scope.names }
  have nfp : ∀ b ∈ fp, (upd H2 D (.lst [])) b = none := fun b hb => (f3 b hb).1.1
  generalize hce : compEnvC scope (cellsFrom (s3.heap.objs.size + 1) scope.names (cloFrom X.env.cells scope.names [])) s3.heap.objs.size X.env = ce at I4 pg pt pe pi1 pg1 pt1 ⊢
  have cL : ce.locals = s3.heap.objs.size := by subst hce; rfl
  generalize hH3 : upd H2 D (.lst []) = H3 at I3 I4 pg pt pe pi1 pg1 pt1 w0 nfp f3
  generalize hs4 : ({ s3 with heap := pushCells (s3.heap.push { cls := .type "dict", data := .dict #[] }) scope.names } : Shared) = s4 at I4 ⊢
  have st4 : tn 0 s4.heap := T.keep _ _ _ st3 fun b _ o e => by rw [← hs4]; exact pushCells_keeps _ _ _ _ (Heap.get?_push_of_some _ e)
  have pz : ∀ b ∈ fp, ∀ p ∈ X.pn, p.1 ≠ b := fun b hb p hp => (f2 b hb).2.2.2.2.2 p (List.mem_append_left _ hp)
  have stat : ∀ {σ' : St} {H' : Hp} {s' : Shared}, Inv (X.blkH s3 H3 scope ce fp) [] σ' H' s' → (∀ b ∈ fp, H' b = none) → ∀ b ∈ fp, FpOk (X.blkH s3 H3 scope ce fp) [] H' b := fun {σ' H' s'} I' hn b hb =>
    ⟨hn b hb, (I'.ok.exf b hb).1, I'.ok.exfs b hb, .inl hb, fun x c e => (I'.ok.exf b hb).2 x c e, fun p hp => pz b hb p (by
      have hp' : p ∈ X.pn ++ [] := hp
      rwa [List.append_nil] at hp')⟩
  have loop : codeAny (model X.prog X.w) X.A (.compLoop (.ListComp elt [⟨tg, iter, ifs, 0⟩, ⟨tg1, iter1, ifs1, 0⟩] scope pos) 0 (.ref it) (.ref D) ce) (compPost (model X.prog X.w) X.A X.xe use Qf (.ref D) s3.heap.objs.size) s4 := by
    refine compLoop2_out (hs1 ce) (fun n s' => ∃ i H', Inv (X.blkH s3 H3 scope ce fp) [] (wipe σ (own.map (·.2))) H' s' ∧ tn i s'.heap ∧ (∀ b ∈ fp, H' b = none) ∧ W i n H') ?_ m0 ⟨0, H3, I4, st4, nfp, w0⟩
    rintro n s5 ⟨i, H5, I5, st5, n5, w5⟩
    rcases turn i n H5 w5 with ⟨stop, qq⟩ | ⟨go, Nx, hNx, step⟩
    · have td := T.done (X.blkH s3 H3 scope ce fp) rfl rfl rfl hc i [] s5 _ H5 (fun _ _ => False) I5 (stat I5 n5) st5 stop
      refine thnF td fun r s6 ⟨hr, I6⟩ => ?_
      subst hr
      -- back in the def's context
      have I7 : Inv X pins σ H5 s6 := I3.call' (ch := fp) I6.os I6.base I6.hok I6.bare fun b hb => ⟨(f3 b hb).1.2.2.2.1, (f3 b hb).1.2.1, (f3 b hb).1.2.2.2.2.1, (f3 b hb).1.2.2.2.2.2⟩
      have nC : H5 s3.heap.objs.size = none := by
        have z : H5 ce.locals = none := I6.free
        rw [cL] at z
        exact z
      obtain ⟨m, hn, _⟩ := I6.loc
      have hn : s6.heap.Ns ce.locals m := hn
      rw [cL] at hn
      exact hRR D s3.heap.objs.size s6 m H5 I7 qq hn (I3.fpOk (Nat.le_refl _) nC)
    · have ti := T.item (X.blkH s3 H3 scope ce fp) rfl rfl rfl hc i [] s5 _ H5 (fun _ _ => False) I5 (stat I5 n5) st5 go
      refine thnF ti fun r s6 ⟨u, hr, h6⟩ => ?_
      subst hr
      refine thnF h6 fun _ s7 ⟨x, H7, I7, r7, y7, st7, n7⟩ => ?_
      have I7' := I7.pinned (stat I7 n7) (T.obj _ _ st7)
      refine thnF (pg.run _ s7 _ H7 x u _ I7' r7 (step x H7 y7)) fun _ s8 ⟨σ8, H8, I8, hw8, q8⟩ => ?_
      refine thnF (pt.run _ s8 σ8 H8 _ I8 q8) fun b s9 ⟨H9, I9, q9⟩ => ?_
      -- the turn's end, from any slots that know what the block knew at its start
      have fin : ∀ {σ9 : St} {s' : Shared} {H' : Hp}, Inv (X.blkH s3 H3 scope ce fp) ([] ++ pinsAt fp s7.heap) σ9 H' s' → (wipe σ (own.map (·.2))).length = σ9.length → (∀ (j : Nat) v, (wipe σ (own.map (·.2)))[j]? = some (some v) → σ9[j]? = some (some v)) → Nx H' →
          ∃ m, m < n ∧ ∃ i H', Inv (X.blkH s3 H3 scope ce fp) [] (wipe σ (own.map (·.2))) H' s' ∧ tn i s'.heap ∧ (∀ b ∈ fp, H' b = none) ∧ W i m H' := fun {σ9 s' H'} I' hl hk nx => by
        obtain ⟨m', hm, w'⟩ := hNx H' nx
        have pin' : ∀ b ∈ fp, ∀ o, s7.heap.get? b = some o → s'.heap.get? b = some o ∧ H' b = none := fun b hb o e =>
          let z := I'.pin (b, o) (List.mem_append_right _ (List.mem_append_right _ (mem_pinsAt hb e)))
          ⟨z.1, z.2.1⟩
        refine ⟨m', hm, i + 1, H', (I'.unpinned (pins := [])).weak hl hk, T.keep _ _ _ st7 fun b hb o e => (pin' b hb o e).1, fun b hb => ?_, w'⟩
        obtain ⟨o, e, _⟩ := T.obj _ _ st7 b hb
        exact (pin' b hb o e).2
      have hl8 : (wipe σ (own.map (·.2))).length = σ8.length := by rw [← hw8, wipe_length]
      have hk8 : ∀ (j : Nat) v, (wipe σ (own.map (·.2)))[j]? = some (some v) → σ8[j]? = some (some v) := fun j v e => by
        rw [← hw8] at e
        exact (wipe_some e).1
      have hk9 : ∀ (j : Nat) v, (wipe σ (own.map (·.2)))[j]? = some (some v) → (wipe σ8 vs1)[j]? = some (some v) := fun j v e => by
        rw [← hw8] at e
        obtain ⟨e1, e2⟩ := wipe_some e
        rw [wipe_out fun z => e2 (hv j z)]
        exact e1
      cases b with
      | false =>
        simp only [Bool.false_eq_true, if_false] at q9 ⊢
        exact fin I9 hl8 hk8 q9
      | true =>
        simp only [if_true] at q9 ⊢
        refine thnF (pi1.run _ s9 σ8 H9 _ I9 q9) fun xv s10 hx => thnF hx fun itv s11 h11 => ?_
        obtain ⟨it1, fp1, tn1, J1, H11, e1, I11, T1, st11, f11, W1, ⟨m1, w1⟩, turn1⟩ := h11
        subst e1
        -- the inner loop
        have stat1 : ∀ {H' : Hp}, (∀ b ∈ fp1, H' b = none) → ∀ b ∈ fp1, FpOk (X.blkH s3 H3 scope ce fp) ([] ++ pinsAt fp s7.heap) H' b := fun hn b hb => ⟨hn b hb, (f11 b hb).2⟩
        have loop1 : codeAny (model X.prog X.w) X.A (.compLoop (.ListComp elt [⟨tg, iter, ifs, 0⟩, ⟨tg1, iter1, ifs1, 0⟩] scope pos) 1 (.ref it1) (.ref D) ce)
            (fun r s' => match r with
              | .ok _ => ∃ m, m < n ∧ ∃ i H', Inv (X.blkH s3 H3 scope ce fp) [] (wipe σ (own.map (·.2))) H' s' ∧ tn i s'.heap ∧ (∀ b ∈ fp, H' b = none) ∧ W i m H'
              | .error _ => False) s11 := by
          refine compLoop2_in (fun k s' => ∃ j H', Inv (X.blkH s3 H3 scope ce fp) ([] ++ pinsAt fp s7.heap) (wipe σ8 vs1) H' s' ∧ tn1 j s'.heap ∧ (∀ b ∈ fp1, H' b = none) ∧ W1 j k H') ?_ m1 ⟨0, H11, I11.weak (wipe_length _ _) (fun j v e => (wipe_some e).1), st11, fun b hb => (f11 b hb).1, w1⟩
          rintro k s12 ⟨j, H12, I12, st12, n12, w12⟩
          rcases turn1 j k H12 w12 with ⟨stop1, nx1⟩ | ⟨go1, Nx1, hNx1, step1⟩
          · refine thnF (T1.done (X.blkH s3 H3 scope ce fp) rfl rfl rfl hc j _ s12 (wipe σ8 vs1) H12 (fun _ _ => False) I12 (stat1 n12) st12 stop1) fun r s13 ⟨hr, I13⟩ => ?_
            subst hr
            exact fin I13 (hl8.trans (wipe_length σ8 vs1).symm) hk9 nx1
          · refine thnF (T1.item (X.blkH s3 H3 scope ce fp) rfl rfl rfl hc j _ s12 (wipe σ8 vs1) H12 (fun _ _ => False) I12 (stat1 n12) st12 go1) fun r s13 ⟨u1, hr, h13⟩ => ?_
            subst hr
            refine thnF h13 fun _ s14 ⟨x1, H14, I14, r14, y14, st14, n14⟩ => ?_
            have I14' := I14.pinned (stat1 n14) (T1.obj _ _ st14)
            refine thnF (pg1.run _ s14 (wipe σ8 vs1) H14 x1 u1 _ I14' r14 (step1 x1 H14 y14)) fun _ s15 ⟨σ15, H15, I15, hw15, q15⟩ => ?_
            refine thnF (pt1.run _ s15 σ15 H15 _ I15 q15) fun b1 s16 ⟨H16, I16, q16⟩ => ?_
            have fin1 : ∀ {s' : Shared} {H' : Hp}, Inv (X.blkH s3 H3 scope ce fp) (([] ++ pinsAt fp s7.heap) ++ pinsAt fp1 s14.heap) σ15 H' s' → Nx1 H' → ∃ m, m < k ∧ ∃ j H', Inv (X.blkH s3 H3 scope ce fp) ([] ++ pinsAt fp s7.heap) (wipe σ8 vs1) H' s' ∧ tn1 j s'.heap ∧ (∀ b ∈ fp1, H' b = none) ∧ W1 j m H' := fun {s' H'} I' nx => by
              obtain ⟨m', hm, w'⟩ := hNx1 H' nx
              have pin' : ∀ b ∈ fp1, ∀ o, s14.heap.get? b = some o → s'.heap.get? b = some o ∧ H' b = none := fun b hb o e =>
                let z := I'.pin (b, o) (List.mem_append_right _ (List.mem_append_right _ (mem_pinsAt hb e)))
                ⟨z.1, z.2.1⟩
              refine ⟨m', hm, j + 1, H', I'.unpinned.weak (by rw [← hw15, wipe_length]) (fun j v e => by rw [← hw15] at e; exact (wipe_some e).1), T1.keep _ _ _ st14 fun b hb o e => (pin' b hb o e).1, fun b hb => ?_, w'⟩
              obtain ⟨o, e, _⟩ := T1.obj _ _ st14 b hb
              exact (pin' b hb o e).2
            cases b1 with
            | false =>
              simp only [Bool.false_eq_true, if_false] at q16 ⊢
              exact fin1 I16 q16
            | true =>
              simp only [if_true] at q16 ⊢
              refine thnF (pe.run _ s16 σ15 H16 _ I16 q16) fun z s27 ⟨yv, H27, I27, r27, acc, hD27, hz27, nx⟩ => ?_
              exact app_ok (X := X.blkH s3 H3 scope ce fp) I27 hD27 hz27 r27 fun s28 I28 => fin1 I28 nx
        exact compStart1_ok loop1 (T1.self X.A 0 _ _ _ st11 loop1)
  exact codeAny_compStart_list loop (T.self X.A 0 _ _ _ st4 loop)
theorem ps_setLc2H {i : Nat} {y : Str} {py : Pos} {elt tg iter tg1 iter1 : Expr} {ifs ifs1 : List Expr} {scope : Scope} {own : List (Str × Nat)} {vs1 : List Nat} {pos spos : Pos} {wi wi1 : TI} {g g1 : TG} {tt tt1 : TT} {te : TE} (hc : L2H.HotC X) (hN : X.N.Nodup) (hy : X.N[i]? = some y) (hyl : X.env.scope.names.lookup y = some .local)
    (hsw : swapsWith (.ListComp elt [⟨tg, iter, ifs, 0⟩, ⟨tg1, iter1, ifs1, 0⟩] scope pos) (some (.Name y py)) spos.line X.env = pure true) (hi : L2H.PIH X tg iter wi) (ok : BlkOk X.N X.env.scope scope own) (hv : ∀ i ∈ vs1, i ∈ own.map (·.2))
    (hg : ∀ (s : Shared) (H : Hp) (C : Addr) (cl : List (Str × Addr)) (fp : List Addr), PG (X.blkH s H scope (compEnvC scope cl C X.env) fp) tg g) (ht : ∀ (s : Shared) (H : Hp) (C : Addr) (cl : List (Str × Addr)) (fp : List Addr), PTs (X.blkH s H scope (compEnvC scope cl C X.env) fp) ifs tt)
    (hi1 : ∀ (s : Shared) (H : Hp) (C : Addr) (cl : List (Str × Addr)) (fp : List Addr), L2H.PIH (X.blkH s H scope (compEnvC scope cl C X.env) fp) tg1 iter1 wi1)
    (hg1 : ∀ (s : Shared) (H : Hp) (C : Addr) (cl : List (Str × Addr)) (fp : List Addr), PG (X.blkH s H scope (compEnvC scope cl C X.env) fp) tg1 g1) (ht1 : ∀ (s : Shared) (H : Hp) (C : Addr) (cl : List (Str × Addr)) (fp : List Addr), PTs (X.blkH s H scope (compEnvC scope cl C X.env) fp) ifs1 tt1)
    (he : ∀ (s : Shared) (H : Hp) (C : Addr) (cl : List (Str × Addr)) (fp : List Addr), PE (X.blkH s H scope (compEnvC scope cl C X.env) fp) elt te) (hs : ∀ x, foldedSetIterable iter X.env x = pure x := by intro _; rfl) (hs1 : ∀ env x, foldedSetIterable iter1 env x = pure x := by intro _ _; rfl) :
    PS X (.Assign [.Name y py] (.ListComp elt [⟨tg, iter, ifs, 0⟩, ⟨tg1, iter1, ifs1, 0⟩] scope pos) spos) (tAsg (tLc2 wi g tt wi1 g1 tt1 te (own.map (·.2)) vs1) (gName i)) := ⟨fun pins s σ H D I h => by
  rw [exec_Assign_Name_used y py _ spos hsw]
  refine wpAny_bind (wpAny_standAt (wpAny_bind ?_))
  refine wpAny_bind (thn (lc2_coreH hc hN I hi ok hv hg ht he hs hi1 hg1 ht1 hs1 h fun L C s' m H' I' q hn f => ?_) fun x s' hq => wpAny_pure (wpAny_pure hq))
  refine wpAny_assign_Name (store_ok2 (v := .ref L) I' hN hy (Or.inl hyl) rfl (fun s2 I2 x => ?_) (Or.inr hyl))
  obtain ⟨a, sb, ha⟩ := x
  obtain ⟨f0, f1, f2, f3, f4, f5⟩ := f
  have haC : C ≠ a := by
    rcases ha with z | z
    · rw [z]; exact f1
    · exact fun e => f4 y a z e.symm
  exact ⟨m, Heap.Ns.sameBut hn sb haC, fun h3 sb3 => ⟨σ.set i (some (.ref L)), H', Inv.turned I2 (fun b o hb e => (sb3.right b hb).trans e) f0 f1 f3 f4 f5, q⟩⟩⟩
end
end L2
namespace DL
open PySem PySem.Spec PyProof.Rows L2
section
variable {X : Cx} {G : Gx}
theorem di_seqH {tg a : Expr} {Fa : FE} (hK : X.K = G.K) (ha : PE X a (tE G Fa)) : L2H.PIH X tg a (tI G (fIter Fa)) := PIH_imp (PIH_or (pi_listH ha) (PIH_or (pi_tupH ha) (pi_strH ha))) fun σ H R ⟨w, e, s, I, h⟩ => by
  unfold fIter at h
  rw [hK]
  cases q : Fa e s with
  | bad => rw [q] at h; exact h.elim
  | ex x0 s0 => exact .inl ⟨w, e, s, I, by rw [q] at h ⊢; exact h⟩
  | ok d s1 =>
    rw [q] at h
    cases d with
    | list ds =>
      refine .inl ⟨w, e, s, I, ?_⟩
      rw [q]
      intro w1 x H1 I1 x1 r1
      obtain ⟨p, xs, rfl, hp, rx⟩ := rp_list r1
      exact ⟨p, rfl, ⟨xs, .inl (.inl (Fz_sub _ _ hp))⟩, h w1 H1 _ I1 x1 (wk_list hp rx)⟩
    | tuple ds =>
      refine .inr (.inl ⟨w, e, s, I, ?_⟩)
      rw [q]
      intro w1 x H1 I1 x1 r1
      obtain ⟨p, xs, rfl, hp, rx⟩ := rp_tuple r1
      exact ⟨p, rfl, ⟨xs, sqT_mono Fz_sub hp⟩, h w1 H1 _ I1 x1 (wk_tuple hp rx)⟩
    | str z =>
      refine .inr (.inr ⟨w, e, s, I, ?_⟩)
      rw [q]
      intro w1 x H1 I1 x1 r1
      exact ⟨z, rp_str r1, h w1 H1 _ I1 x1 wk_str⟩
    | _ => exact h.elim
theorem ds_forH {tg iter : Expr} {body : List Stmt} {pos : Pos} {Fi : FA} {F : FG} {B : FS} {is : List Nat} (hp : PassesOwn (model X.prog X.w) X.A X.env X.xe) (hc : L2H.HotC X) (hi : L2H.PIH X tg iter (tI G Fi)) (hg : PG X tg (tG G is F)) (hb : PSs X body (tS G B))
    (hs : ∀ x, foldedSetIterable iter X.env x = pure x := by intro _; rfl) : PS X (.For tg iter body [] pos) (tS G (sFor Fi F B)) := PS_imp (L2H.ps_forH hp hc hi hg hb hs) fun D σ H ⟨w, e, s, I, h⟩ => by
  refine ⟨w, e, s, I, holds_imp (flo_holds h) fun ds s1 h1 w1 H1 J I1 x1 W => ?_⟩
  refine ⟨fun i m σ2 H2 => m = ds.length - i ∧ i ≤ ds.length ∧ ∃ w2 e2 s2, IE G w2 e2 s2 σ2 H2 ∧ FExt w1 H1 w2 H2 ∧ kS G w2 H2 D (forL F B (ds.drop i) e2 s2),
    ⟨ds.length, by omega, Nat.zero_le _, w1, e, s1, I1, .refl, kS_ext x1.f h1⟩, ?_⟩
  rintro i m σ2 H2 ⟨rfl, hi, w2, e2, s2, I2, x2, q⟩
  by_cases hlt : i < ds.length
  · refine .inr ⟨W.go w2 H2 x2 i hlt, fun σ3 H3 => ∃ w3 e3 s3, IE G w3 e3 s3 σ3 H3 ∧ FExt w1 H1 w3 H3 ∧ kS G w3 H3 D (forL F B (ds.drop (i + 1)) e3 s3), fun σ3 H3 ⟨w3, e3, s3, I3, x3, q3⟩ => ⟨ds.length - (i + 1), by omega, rfl, hlt, w3, e3, s3, I3, x3, q3⟩, fun v H3 y => ?_⟩
    obtain ⟨I3, x3, d, hd, rd⟩ := W.yld w2 e2 s2 σ2 H2 H3 i v I2 x2 hlt y
    have ed : ds.drop i = d :: ds.drop (i + 1) := by
      rw [List.drop_eq_getElem_cons hlt]
      rw [List.getElem?_eq_getElem hlt] at hd
      cases hd
      rfl
    rw [ed] at q
    unfold forL at q
    refine ⟨w2, e2, s2, d, I3, rd, holds_imp (holds_noex (flo_holds (e := e2) (σ := σ2) q) _) fun e4 s4 h4 w4 σ4 H4 I4 x4 _ _ => ?_⟩
    have x24 : FExt w2 H2 w4 H4 := x3.f.trans x4.f
    refine ⟨w4, e4, s4, I4, ?_⟩
    cases z : B e4 s4 with
    | bad => rw [z] at h4; exact h4
    | nx e5 s5 =>
      rw [z] at h4
      exact fun w5 σ5 H5 I5 x5 => ⟨w5, e5, s5, I5, (x2.trans x24).trans x5, kS_ext (x24.trans x5) h4⟩
    | ct e5 s5 =>
      rw [z] at h4
      exact fun w5 σ5 H5 I5 x5 => ⟨w5, e5, s5, I5, (x2.trans x24).trans x5, kS_ext (x24.trans x5) h4⟩
    | bk e5 s5 =>
      rw [z] at h4
      exact fun w5 σ5 H5 I5 x5 => h4 w5 σ5 H5 I5 (x24.trans x5)
    | rt d5 s5 =>
      rw [z] at h4
      exact fun w5 e6 σ5 v5 H5 I5 x5 => h4 w5 e6 σ5 v5 H5 I5 (x24.trans x5)
    | ex y5 e5 s5 =>
      rw [z] at h4
      exact fun w5 σ5 H5 cls d I5 x5 => h4 w5 σ5 H5 cls d I5 (x24.trans x5)
  · have e0 : ds.drop i = [] := List.drop_eq_nil_of_le (by omega)
    rw [e0] at q
    exact .inl ⟨W.stop w2 H2 x2 i (by omega), q w2 σ2 H2 I2 .refl⟩
theorem de_lcH {elt tg iter : Expr} {ifs : List Expr} {scope : Scope} {own : List (Str × Nat)} {pos : Pos} {Fi : FA} {F : FG} {C : FT} {Fe : FE} {is : List Nat} (hc : L2H.HotC X) (hN : X.N.Nodup) (ok : BlkOk X.N X.env.scope scope own) (hi : L2H.PIH X tg iter (tI G Fi))
    (hg : ∀ (s : Shared) (H : Hp) (A : Addr) (cl : List (Str × Addr)) (fp : List Addr), PG (X.blkH s H scope (compEnvC scope cl A X.env) fp) tg (tG G is F)) (ht : ∀ (s : Shared) (H : Hp) (A : Addr) (cl : List (Str × Addr)) (fp : List Addr), PTs (X.blkH s H scope (compEnvC scope cl A X.env) fp) ifs (tT G C))
    (he : ∀ (s : Shared) (H : Hp) (A : Addr) (cl : List (Str × Addr)) (fp : List Addr), PE (X.blkH s H scope (compEnvC scope cl A X.env) fp) elt (tE G Fe)) (his : ∀ i ∈ is, i ∈ own.map (·.2) := by decide) (hs : ∀ x, foldedSetIterable iter X.env x = pure x := by intro _; rfl) :
    PE X (.ListComp elt [⟨tg, iter, ifs, 0⟩] scope pos) (tE G (fLc Fi F C Fe (own.map (·.2)))) := PE_imp (pe_lcH hc hN hi ok hg ht he hs) fun _ _ _ h => lc_of his h
theorem ds_setLc2H (i0 : Nat) {y : Str} {py spos : Pos} {elt tg iter tg1 iter1 : Expr} {ifs ifs1 : List Expr} {scope : Scope} {own : List (Str × Nat)} {vs1 : List Nat} {pos : Pos} {Fi : FA} {F : FG} {C : FT} {Fj : FA} {F2 : FG} {C2 : FT} {Fe : FE} {is is1 : List Nat} (hc : L2H.HotC X) (hN : X.N.Nodup) (ok : BlkOk X.N X.env.scope scope own) (hsw : swapsWith (.ListComp elt [⟨tg, iter, ifs, 0⟩, ⟨tg1, iter1, ifs1, 0⟩] scope pos) (some (.Name y py)) spos.line X.env = pure true) (hi : L2H.PIH X tg iter (tI G Fi))
    (hg : ∀ (s : Shared) (H : Hp) (A : Addr) (cl : List (Str × Addr)) (fp : List Addr), PG (X.blkH s H scope (compEnvC scope cl A X.env) fp) tg (tG G is F)) (ht : ∀ (s : Shared) (H : Hp) (A : Addr) (cl : List (Str × Addr)) (fp : List Addr), PTs (X.blkH s H scope (compEnvC scope cl A X.env) fp) ifs (tT G C))
    (hi1 : ∀ (s : Shared) (H : Hp) (A : Addr) (cl : List (Str × Addr)) (fp : List Addr), L2H.PIH (X.blkH s H scope (compEnvC scope cl A X.env) fp) tg1 iter1 (tI G Fj)) (hg1 : ∀ (s : Shared) (H : Hp) (A : Addr) (cl : List (Str × Addr)) (fp : List Addr), PG (X.blkH s H scope (compEnvC scope cl A X.env) fp) tg1 (tG G is1 F2))
    (ht1 : ∀ (s : Shared) (H : Hp) (A : Addr) (cl : List (Str × Addr)) (fp : List Addr), PTs (X.blkH s H scope (compEnvC scope cl A X.env) fp) ifs1 (tT G C2)) (he : ∀ (s : Shared) (H : Hp) (A : Addr) (cl : List (Str × Addr)) (fp : List Addr), PE (X.blkH s H scope (compEnvC scope cl A X.env) fp) elt (tE G Fe))
    (hy : X.N[i0]? = some y := by rfl) (hyl : X.env.scope.names.lookup y = some .local := by rfl) (hv : ∀ i ∈ vs1, i ∈ own.map (·.2) := by decide) (his : ∀ i ∈ is, i ∈ own.map (·.2) := by decide) (his1 : ∀ i ∈ is1, i ∈ vs1 := by decide) (hs : ∀ x, foldedSetIterable iter X.env x = pure x := by intro _; rfl) (hs1 : ∀ env x, foldedSetIterable iter1 env x = pure x := by intro _ _; rfl) :
    PS X (.Assign [.Name y py] (.ListComp elt [⟨tg, iter, ifs, 0⟩, ⟨tg1, iter1, ifs1, 0⟩] scope pos) spos) (tS G (sSet i0 (fLc2 Fi F C Fj F2 C2 Fe (own.map (·.2)) vs1))) :=
  PS_imp (ps_setLc2H hc hN hy hyl hsw hi ok hv hg ht hi1 hg1 ht1 he hs hs1) fun D σ H h => by
    obtain ⟨w, e, s, I, h'⟩ := tAsg_of (is := [i0]) h
    exact lc2_of his his1 ⟨w, e, s, I, holds_imp h' fun d s1 k w1 v H1 I1 x1 r1 => gName_of (k w1 v H1 I1 x1 r1) (by simp)⟩
theorem dg_tupH {es : List Expr} {k : Nat} {pos : Pos} {F : FGs} {is : List Nat} {n : Nat} (hc : L2H.HotC X) (hK : X.K = G.K) (h : PGs X es (tGs G is F)) (hn : (assignEach es X.env).length = n := by rfl) (hst : (assignEach es X.env).findIdx? (·.1) = none := by rfl) : PG X (.Tuple es k pos) (tG G is (gTupT n F)) :=
  PG_imp (pg_tupH hc h hn hst) fun v σ H Q ⟨w, e, s, d, I, r, q⟩ => by
    unfold gTupT at q
    split at q
    · rename_i ds
      split at q
      · rename_i c
        obtain ⟨a, xs, rfl, hq, rx⟩ := rp_tuple r
        exact ⟨a, xs, rfl, by rw [hK]; exact sqT_mono Fz_sub hq, by rw [rx.length]; exact c, w, e, s, ds, I, rx, q⟩
      · exact q.elim
    · exact q.elim
section
variable {p pos : Pos} {a : Expr} {es : List Expr} {Fs : FA}
theorem de_allH (hc : L2H.HotC X) (hK : X.K = G.K) (hm : X.mg "all" = none) (ha : PA X (a :: es) (tA G Fs)) (hgl : Gl X "all" := by rfl) (he : starEach (a :: es) X.env = (false, eval a X.env) :: starEach es X.env := by rfl) (hpl : (backTo pos (starEach es X.env)).any (·.1) = false := by rfl) :
    PE X (.Call (.Name "all" p) (a :: es) [] pos) (tE G (fCall gAll Fs)) := de_callB (cr_allH hc) (by rw [hK]; exact cdAll) hm ha (hgl := hgl) (he := he) (hpl := hpl)
end
theorem ps_parH {pos : Pos} {i j : Nat} {x y : Str} {a b : Expr} {ta : TA} {px py pt : Pos} {kt k2 : Nat} {pt2 : Pos} (hc : L2H.HotC X) (hN : X.N.Nodup) (hi : X.N[i]? = some x) (hj : X.N[j]? = some y) (hij : i ≠ j) (hx : X.env.scope.names.lookup x = some .local) (hy : X.env.scope.names.lookup y = some .local) (ha : PA X [a, b] ta)
    (hw : swappedStores [.Tuple [.Name x px, .Name y py] kt pt] (.Tuple [a, b] k2 pt2) X.env = pure (some [x, y])) (hs : swapsWithSole [.Tuple [.Name x px, .Name y py] kt pt] (.Tuple [a, b] k2 pt2) pos.line X.env = pure false := by rfl) :
    PS X (.Assign [.Tuple [.Name x px, .Name y py] kt pt] (.Tuple [a, b] k2 pt2) pos) (tPar i j ta) := ⟨fun pins s σ H D I h => by
  rw [exec_Assign_arm]
  refine wpAny_bind (wpAny_standAt ?_)
  rw [hs]
  refine wpAny_bind (wpAny_pure ?_)
  rw [if_neg (by decide)]
  refine wpAny_bind (Tuple_ (thn (ha.run pt2 pins s σ H _ I h) fun us s1 ⟨vs, H1, I1, r1, v, w, e1, q1⟩ => ?_))
  subst e1
  obtain ⟨u1, u2, rfl, rv, rw'⟩ : ∃ u1 u2, us = [u1, u2] ∧ RelV v u1 ∧ RelV w u2 := by
    cases r1 with
    | cons x y =>
      cases y with
      | cons z t =>
        cases t
        exact ⟨_, _, rfl, x, z⟩
  refine wpAny_newObj_type ?_ (by show 2 ≤ sizeLine; decide)
  have I2 : L2.Inv X pins σ H1 { s1 with heap := s1.heap.push { cls := Value.type "tuple", data := Data.seq #[u1, u2] } } := I1.kept (t' := s1.toks) fun b o e => Heap.get?_push_of_some _ e
  rw [hw]
  refine wpAny_bind (wpAny_pure ?_)
  unfold assignStores
  refine wpAny_bind (wpAny_rule (wpAny_bind ?_))
  obtain ⟨x1, hot, _⟩ := hot_at hc I2
  have un := unpackItems_hot (P := X.prog) (w := X.w) (A := X.A) (E := X.xe) (items := #[u1, u2]) hot (IsTup.new s1.heap #[u1, u2]) (Q := fun its s' => wpAny (model X.prog X.w) X.A (do
      assignInOrder (List.map (fun n => bindName X.env n) [x, y].reverse) its.reverse
      pure Flow.next) (SP X pins D) X.xe s') fun h' hx' => ?_
  · exact un
  have I3 : L2.Inv X pins σ H1 { s1 with heap := h' } := I2.kept (t' := s1.toks) fun b o e => hx' b o (Nat.ne_of_lt (Heap.lt_size e)) e
  show wpAny _ _ (do
      assignInOrder [bindName X.env y, bindName X.env x] [u2, u1]
      pure Flow.next) _ _ _
  refine wpAny_bind (assignInOrder_cons (wpAny_bindName (store_ok I3 hN hj (Or.inl hy) rw' (fun s2 I4 => assignInOrder_cons (wpAny_bindName (store_ok I4 hN hi (Or.inl hx) rv (fun s3 I5 => assignInOrder_nil (wpAny_pure ⟨_, H1, ?_, q1⟩)) (Or.inr hx)))) (Or.inr hy))))
  rw [List.set_comm _ _ (Ne.symm hij)] at I5
  exact I5⟩
theorem ds_parH (i j : Nat) {x y : Str} {a b : Expr} {Fs : FA} {px py pt pos : Pos} {kt k2 pt2} (hc : L2H.HotC X) (hN : X.N.Nodup) (ha : PA X [a, b] (tA G Fs)) (hi : X.N[i]? = some x := by rfl) (hj : X.N[j]? = some y := by rfl) (hij : i ≠ j := by decide)
    (hx : X.env.scope.names.lookup x = some .local := by rfl) (hy : X.env.scope.names.lookup y = some .local := by rfl)
    (hw : swappedStores [.Tuple [.Name x px, .Name y py] kt pt] (.Tuple [a, b] k2 pt2) X.env = pure (some [x, y]) := by rfl)
    (hs : swapsWithSole [.Tuple [.Name x px, .Name y py] kt pt] (.Tuple [a, b] k2 pt2) pos.line X.env = pure false := by rfl) :
    PS X (.Assign [.Tuple [.Name x px, .Name y py] kt pt] (.Tuple [a, b] k2 pt2) pos) (tS G (sPar i j Fs)) := PS_imp (ps_parH hc hN hi hj hij hx hy ha hw hs) fun D σ H ⟨w, e, s, I, h⟩ => by
  refine ⟨w, e, s, I, holds_imp (flo_holds h) fun ds s1 h1 w1 vs H1 I1 x1 r1 => ?_⟩
  split at h1
  · rename_i d1 d2
    split at h1
    · rename_i c
      obtain ⟨v1, v2, rfl, k1, k2⟩ := rpl2 r1
      exact ⟨v1, v2, rfl, h1 w1 _ H1 ((I1.set c.1 k1).set (by rw [List.length_set]; exact c.2) k2) x1.f⟩
    · exact h1.elim
  · exact h1.elim
theorem roomNH {k : Nat} {A : Around} (hr : L2H.RoomH k A) : (nestedKind X.prog X.w).room A.in1 := by
  have := hr.un
  show A.units + 1 + 8 < cLine
  omega
theorem room1H {k : Nat} {A : Around} (hr : L2H.RoomH k A) : A.units + 1 < cLine := by have := hr.un; omega
theorem room65H {k : Nat} {A : Around} (hr : L2H.RoomH k A) : A.units + 65 < cLine := by have := hr.un; omega
theorem unitsH {k : Nat} {A : Around} (hr : L2H.RoomH k A) : A.units + 64 < cLine := by have := hr.un; omega
section
variable {pins : List (Addr × Obj)} {σ : L2.St} {H : Hp} {s : Shared}
theorem op_inNH {k : Nat} (hr : L2H.RoomH k X.A) : OpR X (compareOp .In) (rInN X id) := fun pins s σ H x y v u Q I rx ry ⟨a, xs, d, ey, hn, hk, q⟩ => by
  subst ey
  cases (show u = Value.ref a from ry)
  obtain ⟨b, rfl, rfl, hb⟩ := nk_is I hk rx
  obtain ⟨h1, h2, h3⟩ := nat_is I hn
  exact wpAny_in_heap (roomNH hr) hb h1 h3 ⟨.bl _, H, I.tok _, rfl, q⟩
theorem ix_nH {k : Nat} (hr : L2H.RoomH k X.A) : IxR X (rIxN X) := by
  intro value slice pins s σ H x y v u Q I rx ry h hs
  obtain ⟨a, xs, d, p, z, rfl, hn, hk, hp, rz, q⟩ := h
  cases (show v = Value.ref a from rx)
  obtain ⟨b, rfl, rfl, hb⟩ := nk_is I hk ry
  obtain ⟨h1, h2, h3⟩ := nat_is I hn
  have ht : s.TypeIs (.ref a) "dict" := by
    obtain ⟨o, es, ep, e1, e2, _⟩ := h3
    exact ⟨o, e1, e2.1⟩
  unfold subscriptTail
  refine wpAny_bind ?_
  rw [getitemInPython_of_ne ht.not_modules]
  refine wpAny_bind (wpAny_specialOf ht PySem.F.slot_dict_getitem.lookup ?_)
  have go : wpAny (model X.prog X.w) X.A (subscripted slice false (.ref a) (.ref b)) (fun r s3 => wpAny (model X.prog X.w) X.A (letTemporaryGo value (.ref a) r >>= fun _ => pure r) (EP X pins σ Q) X.xe s3) X.xe s := by
    rw [hs]
    exact wpAny_operating (wpAny_getItem_heap (roomNH hr) hb h3 hp (wpAny_bind (wpAny_letTemporaryGo (wpAny_pure ⟨z, H, I.tok _, rz, q⟩))))
  first
    | exact wpAny_pure (wpAny_bind go)
    | exact wpAny_bind (wpAny_pure (wpAny_bind go))
    | exact wpAny_bind go
theorem op_in4H {k : Nat} (hr : L2H.RoomH k X.A) (hK : X.K = G.K) : OpR X (compareOp .In) (fun x y H Q => rIn3 G.K x y H Q ∨ rInDk x y H Q) := OpR.or (by rw [← hK]; exact (op_inD (room65H hr)).or ((op_inT (room65H hr)).or op_in_str)) (op_inDk (room1H hr))
theorem op_in5H {k : Nat} (hr : L2H.RoomH k X.A) (hK : X.K = G.K) : OpR X (compareOp .In) (fun x y H Q => (rIn3 G.K x y H Q ∨ rInDk x y H Q) ∨ rInN X id x y H Q) := (op_in4H hr hK).or (op_inNH hr)
end
theorem de_ix3H {k : Nat} {a b : Expr} {pos : Pos} {Fa Fb : FE} (hr : L2H.RoomH k X.A) (hK : X.K = G.K) (hp : G.xc.pw = some (X.prog, X.w)) (ha : PE X a (tE G Fa)) (hb : PE X b (tE G Fb)) (hs : PlainIx b := by exact fun _ _ => rfl) : PE X (.Subscript a b pos) (tE G (fBin gIx3 Fa Fb)) :=
  PE_imp (pe_ix ((ix_seq.or (ix_dict (room1H hr))).or (ix_nH hr)) ha hb hs) fun _ _ _ h => tOp_of (by rw [hK]; exact opIx3 hK hp) h
section
variable {a b : Expr} {pos : Pos} {Fa Fb : FE} {k : Nat}
theorem de_in3H (hr : L2H.RoomH k X.A) (hK : X.K = G.K) (hp : G.xc.pw = some (X.prog, X.w)) (ha : PE X a (tE G Fa)) (hb : PE X b (tE G Fb)) (hm : behindInMarks .In b = false := by with_unfolding_all rfl) : PE X (.Compare a [.In] [b] pos) (tE G (fBin gIn3 Fa Fb)) := de_cmp (op_in5H hr hK) (opIn3 hK hp) ha hb hm
theorem dt_in3H (hr : L2H.RoomH k X.A) (hK : X.K = G.K) (hp : G.xc.pw = some (X.prog, X.w)) (ha : PE X a (tE G Fa)) (hb : PE X b (tE G Fb)) (hm : behindInMarks .In b = false := by with_unfolding_all rfl) : PT X (.Compare a [.In] [b] pos) (tT G (fB (fBin gIn3 Fa Fb))) := dt_cmp (op_in5H hr hK) (opIn3 hK hp) ha hb hm
end
end
end DL
namespace L2
open PySem PySem.Spec PyProof.Rows DL
section
variable {P : Program} {w : World} {K : PySem.W.Frag} {mg : Str → Option Value} {base : Heap} {x qual : Str} {st : Stmt} {f : Addr} {fd : FuncData} {N ps : List Str} {k : Nat} {sp : Sp} {CX : CXT}
theorem Fun.okG (F : Fun K x qual st f fd) (S : FnScope N ps (defScope st)) (len : ∀ (vs : List V) (H : Hp) (Q : VK) (E : XK), sp vs H Q E → vs.length = ps.length)
    (hbody : ∀ (cdv : Value) (A : Around) (outer : List Env) (s : Shared) (H : Hp) (vs : List V) (Q : VK) (E : XK), Room k (A.deeper (envOfC qual (defScope st) s.heap.objs.size f cdv)) → sp vs H Q E → ∃ t, PSs (cxOf CX P w K mg base N qual (defScope st) f cdv A outer s H E) (defBody st) t ∧ t { nx := fun _ H' => Q V.non H', rt := Q } (L2.start N vs) H) :
    FnOk P w K mg base CX (k + 1) f fd ps sp := by
  obtain ⟨oc, od, kV, doc, pm, an, cdv, ct, osl, rfl, lk, hcd⟩ := F.ex
  exact fn_of lk hcd S len fun A outer s H vs Q E hr hsp => hbody cdv A outer s H vs Q E hr hsp
theorem Fun.okH (F : Fun K x qual st f fd) (S : FnScope N ps (defScope st)) (len : ∀ (vs : List V) (H : Hp) (Q : VK) (E : XK), sp vs H Q E → vs.length = ps.length)
    (hbody : ∀ (cdv : Value) (A : Around) (outer : List Env) (s : Shared) (H : Hp) (vs : List V) (Q : VK) (E : XK) (p : Addr × Obj), L2H.HotC (L2H.cxH CX P w K mg base N qual (defScope st) f cdv A outer s H E p) → L2H.RoomH k (A.deeper (envOfC qual (defScope st) s.heap.objs.size f cdv)) → sp vs H Q E → ∃ t, PSs (L2H.cxH CX P w K mg base N qual (defScope st) f cdv A outer s H E p) (defBody st) t ∧ t { nx := fun _ H' => Q V.non H', rt := Q } (L2.start N vs) H) :
    L2H.FnH P w K mg base CX (k + 1) f fd ps sp := by
  obtain ⟨oc, od, kV, doc, pm, an, cdv, ct, osl, rfl, lk, hcd⟩ := F.ex
  exact L2H.fn_ofH lk hcd S len fun A outer s H vs Q E p hot hr hsp => hbody cdv A outer s H vs Q E p ⟨p, hot, List.mem_singleton_self _⟩ hr hsp
end
end L2
namespace DL
open PySem PySem.Spec PyProof.Rows L2
section
variable {P : Program} {wd : World} {K : PySem.W.Frag} {mg : Str → Option Value} {base : Heap} {x qual : Str} {st : Stmt} {f : Addr} {fd : FuncData} {N ps : List Str} {k : Nat} {F : FS} {xc : Xc}
theorem def_okH (D : Fun K x qual st f fd) (S : FnScope N ps (defScope st)) (hl : ps.length ≤ N.length)
    (hbody : ∀ (cdv : Value) (A : Around) (outer : List Env) (s : Shared) (H : Hp) (E : XK) (p : Addr × Obj) (H0 : Hp) (as0 : List Addr) (O0 : Addr → Prop), L2H.RoomH k (A.deeper (envOfC qual (defScope st) s.heap.objs.size f cdv)) → L2H.HotC (L2H.cxH CX0 P wd K mg base N qual (defScope st) f cdv A outer s H E p).nox → PSs (L2H.cxH CX0 P wd K mg base N qual (defScope st) f cdv A outer s H E p).nox (defBody st) (tS ⟨K, H0, as0, O0, xc, fun _ _ _ _ => False⟩ F)) :
    L2H.FnH P wd K mg base CX0 (k + 1) f fd ps (spX K xc (runN ps.length N.length F)) := by
  refine D.okH S (fun vs H Q E h => runN_len h) fun cdv A outer s H vs Q E p hot hr h => ?_
  obtain ⟨as0, O0, q⟩ := run_bodyN hl h
  exact ⟨_, PSs.nox (hbody cdv A outer s H E p H as0 O0 hr hot), q⟩
theorem def_okXH (D : Fun K x qual st f fd) (S : FnScope N ps (defScope st)) (hl : ps.length ≤ N.length)
    (hbody : ∀ (cdv : Value) (A : Around) (outer : List Env) (s : Shared) (H : Hp) (E : XK) (p : Addr × Obj) (H0 : Hp) (as0 : List Addr) (O0 : Addr → Prop), L2H.RoomH k (A.deeper (envOfC qual (defScope st) s.heap.objs.size f cdv)) → L2H.HotC (L2H.cxH (L2.CX P wd) P wd K mg base N qual (defScope st) f cdv A outer s H E p) → PSs (L2H.cxH (L2.CX P wd) P wd K mg base N qual (defScope st) f cdv A outer s H E p) (defBody st) (tS ⟨K, H0, as0, O0, xc, fun cls d _ H' => E cls d H'⟩ F)) :
    L2H.FnH P wd K mg base (L2.CX P wd) (k + 1) f fd ps (spX K xc (runF ps.length N.length F)) := by
  refine D.okH S (fun vs H Q E h => run_len h) fun cdv A outer s H vs Q E p hot hr h => ?_
  obtain ⟨as0, O0, q⟩ := run_body hl h
  exact ⟨_, hbody cdv A outer s H E p H as0 O0 hr hot, q⟩
theorem def_okN (D : Fun K x qual st f fd) (S : FnScope N ps (defScope st)) (hl : ps.length ≤ N.length)
    (hbody : ∀ (cdv : Value) (A : Around) (outer : List Env) (s : Shared) (H : Hp) (E : XK) (H0 : Hp) (as0 : List Addr) (O0 : Addr → Prop), Room k (A.deeper (envOfC qual (defScope st) s.heap.objs.size f cdv)) → PSs (cxOf (L2N.CX P wd) P wd K mg base N qual (defScope st) f cdv A outer s H E) (defBody st) (tS ⟨K, H0, as0, O0, xc, fun cls d _ H' => E cls d H'⟩ F)) :
    FnOk P wd K mg base (L2N.CX P wd) (k + 1) f fd ps (spX K xc (runF ps.length N.length F)) := by
  refine D.okG S (fun vs H Q E h => run_len h) fun cdv A outer s H vs Q E hr h => ?_
  obtain ⟨as0, O0, q⟩ := run_body hl h
  exact ⟨_, hbody cdv A outer s H E H as0 O0 hr, q⟩
end
section
variable {X : Cx} {G : Gx}
theorem de_callH {x : Str} {p pos : Pos} {a : Expr} {es : List Expr} {CX : CXT} {k : Nat} {f : Addr} {fd : FuncData} {ps : List Str} {g : List Dat → Sto → Res Dat} {Fs : FA} (hc : L2H.HotC X) (GF : L2H.FnH X.prog X.w X.K X.mg X.base CX k f fd ps (spX G.K G.xc g)) (hr : L2H.RoomH k X.A)
    (hm : X.mg x = some (.ref f)) (hk : PySem.W.keepIn X.K (.ref f) = true) (hb : Binds X.K fd ps []) (hx : Passes CX X fun _ _ _ => False) (ha : PA X (a :: es) (tA G Fs)) (hg : Gl X x := by rfl) (hdb : (x == ("__debug__" : Str)) = false := by decide)
    (he : starEach (a :: es) X.env = (false, eval a X.env) :: starEach es X.env := by rfl) (hpl : (backTo pos (starEach es X.env)).any (·.1) = false := by rfl) : PE X (.Call (.Name x p) (a :: es) [] pos) (tE G (fCallD g Fs)) :=
  PE_imp (L2H.pe_callH GF hr hc hg hm hk hb (fun σ pins H s e s' I h => hx pins σ H s e s' I h) ha hdb he hpl) fun σ H Q ⟨w, e, s, I, h⟩ => by
    unfold fCallD at h
    refine ⟨w, e, s, I, holds_imp (holds_bind h) fun ds s1 h1 w1 vs H1 I1 x1 r1 => ?_⟩
    refine ⟨w1, ds, s1, I1.ci, r1, holds_imp (holds_noex h1 (fun _ _ => False)) (fun d s2 h2 w2 v H2 af r2 => ?_) fun _ _ z => z.elim⟩
    obtain ⟨J, ex⟩ := I1.back af
    exact h2 w2 v H2 J (x1.trans ex) r2
theorem de_callRH {x : Str} {p pos : Pos} {a : Expr} {es : List Expr} {k : Nat} {f : Addr} {fd : FuncData} {ps : List Str} {g : List Dat → Sto → Res Dat} {Fs : FA} (hc : L2H.HotC X) (GF : L2H.FnH X.prog X.w X.K X.mg X.base (L2.CX X.prog X.w) k f fd ps (spX G.K G.xc g)) (hr : L2H.RoomH k X.A)
    (hm : X.mg x = some (.ref f)) (hk : PySem.W.keepIn X.K (.ref f) = true) (hb : Binds X.K fd ps []) (tk : Takes X G.W) (ha : PA X (a :: es) (tA G Fs)) (hg : Gl X x := by rfl) (hdb : (x == ("__debug__" : Str)) = false := by decide)
    (he : starEach (a :: es) X.env = (false, eval a X.env) :: starEach es X.env := by rfl) (hpl : (backTo pos (starEach es X.env)).any (·.1) = false := by rfl) :
    PE X (.Call (.Name x p) (a :: es) [] pos) (tE G (fCall g Fs)) :=
  PE_imp (L2H.pe_callH GF hr hc hg hm hk hb (fun σ => passAt tk σ) ha hdb he hpl) fun σ H Q ⟨w, e, s, I, h⟩ => by
    unfold fCall at h
    refine ⟨w, e, s, I, holds_imp (holds_bind h) fun ds s1 h1 w1 vs H1 I1 x1 r1 => ?_⟩
    refine ⟨w1, ds, s1, I1.ci, r1, holds_imp h1 (fun d s2 h2 w2 v H2 af r2 => ?_) fun y s2 h2 w2 H2 cls d af r2 => ?_⟩
    · obtain ⟨J, ex⟩ := I1.back af
      exact h2 w2 v H2 J (x1.trans ex) r2
    · obtain ⟨J, ex⟩ := I1.back af
      exact h2 w2 H2 cls d J (x1.trans ex) r2
theorem de_callRN {x : Str} {p pos : Pos} {a : Expr} {es : List Expr} {k : Nat} {f : Addr} {fd : FuncData} {ps : List Str} {g : List Dat → Sto → Res Dat} {Fs : FA} (GF : FnOk X.prog X.w X.K X.mg X.base (L2N.CX X.prog X.w) k f fd ps (spX G.K G.xc g)) (hr : Room k X.A)
    (hm : X.mg x = some (.ref f)) (hk : PySem.W.keepIn X.K (.ref f) = true) (hb : Binds X.K fd ps []) (tk : L2N.Takes X G.W) (ha : PA X (a :: es) (tA G Fs)) (hg : Gl X x := by rfl) (hdb : (x == ("__debug__" : Str)) = false := by decide)
    (he : starEach (a :: es) X.env = (false, eval a X.env) :: starEach es X.env := by rfl) (hpl : (backTo pos (starEach es X.env)).any (·.1) = false := by rfl) :
    PE X (.Call (.Name x p) (a :: es) [] pos) (tE G (fCall g Fs)) :=
  PE_imp (pe_callS GF hr hg hm hk hb (fun σ => L2N.passAt tk σ) ha hdb he hpl) fun σ H Q ⟨w, e, s, I, h⟩ => by
    unfold fCall at h
    refine ⟨w, e, s, I, holds_imp (holds_bind h) fun ds s1 h1 w1 vs H1 I1 x1 r1 => ?_⟩
    refine ⟨w1, ds, s1, I1.ci, r1, holds_imp h1 (fun d s2 h2 w2 v H2 af r2 => ?_) fun y s2 h2 w2 H2 cls d af r2 => ?_⟩
    · obtain ⟨J, ex⟩ := I1.back af
      exact h2 w2 v H2 J (x1.trans ex) r2
    · obtain ⟨J, ex⟩ := I1.back af
      exact h2 w2 H2 cls d J (x1.trans ex) r2
theorem ds_raiseH (id : Nat) {e : Expr} {pos : Pos} {Fs : FA} {C : Addr} {fns : List Str} {n : Nat} (hc : L2H.HotC X) (tk : Takes X G.W) (hx : G.xc.ex id = some (C, fns)) (hn : fns.length = n) (hm : L2N.PMk X e (tMkEx C fns (tA G Fs))) : PS X (.Raise (some e) none pos) (tS G (sRaise id n Fs)) :=
  PS_imp (L2H.ps_raiseH hc tk hm) fun D σ H ⟨w, e, s, I, h⟩ => by
    refine ⟨w, e, s, I, holds_imp (flo_holds h) fun ds s1 h1 w1 vs H1 I1 x1 r1 => ?_⟩
    split at h1
    · rename_i c
      refine ⟨by rw [r1.length, c, hn], fun d hd => ?_⟩
      have I2 := I1.new (o := .xd (fns.zip vs)) hd
      have E2 := I1.newE (o := .xd (fns.zip vs)) hd
      refine h1 w1 σ _ _ _ I2 (x1.trans E2).f ⟨id, ds, C, fns, d, vs, rfl, hx, rfl, rfl, I1.newF hd, ?_, E2.rpl r1⟩
      rw [r1.length, c, hn]
    · exact h1.elim
theorem ds_raiseN (id : Nat) {e : Expr} {pos : Pos} {Fs : FA} {C : Addr} {fns : List Str} {n : Nat} (hc : X.calm = true) (tk : L2N.Takes X G.W) (hx : G.xc.ex id = some (C, fns)) (hn : fns.length = n) (hm : L2N.PMk X e (tMkEx C fns (tA G Fs))) : PS X (.Raise (some e) none pos) (tS G (sRaise id n Fs)) :=
  PS_imp (L2N.ps_raise hc tk hm) fun D σ H ⟨w, e, s, I, h⟩ => by
    refine ⟨w, e, s, I, holds_imp (flo_holds h) fun ds s1 h1 w1 vs H1 I1 x1 r1 => ?_⟩
    split at h1
    · rename_i c
      refine ⟨by rw [r1.length, c, hn], fun d hd => ?_⟩
      have I2 := I1.new (o := .xd (fns.zip vs)) hd
      have E2 := I1.newE (o := .xd (fns.zip vs)) hd
      refine h1 w1 σ _ _ _ I2 (x1.trans E2).f ⟨id, ds, C, fns, d, vs, rfl, hx, rfl, rfl, I1.newF hd, ?_, E2.rpl r1⟩
      rw [r1.length, c, hn]
    · exact h1.elim
theorem hot_tr {pn : List (Addr × Obj)} {xe : Value → Shared → Prop} (hc : L2H.HotC X) (h : ∀ q ∈ X.pn, q ∈ pn) : L2H.HotC (X.tr pn xe) := by
  obtain ⟨p, a, b⟩ := hc
  exact ⟨p, a, h p b⟩
theorem ds_tryH {A : Value} {ids : List Nat} {x : Str} {body suite : List Stmt} {b0 : Stmt} {np pos pos2 : Pos} {F F2 : FS} (hs : X.stack = X.env :: X.outer) (hf : X.env.frame = some X.env.locals) (hc : Names X x A) (ct : Catches X G A ids) (tk : Takes X G.W)
    (hb : ∀ (W : WX) (pn : List (Addr × Obj)) (xe : Value → Shared → Prop), (∀ q ∈ X.pn, q ∈ pn) → Takes (X.tr pn xe) W → PassesOwn (model X.prog X.w) X.A X.env xe → PSs (X.tr pn xe) body (tS { G with W := W } F))
    (hsu : ∀ (a : Addr) (oe : Obj) (cls : Value) (d : Option Addr) (pn : List (Addr × Obj)), Zc cls d oe → (∃ vs, oe.data = .fields vs) → PSs (X.suite a ((a, oe) :: pn)) (b0 :: suite) (tS G F2)) :
    PS X (.Try body [.ExceptHandler (some (.Name x np)) none (b0 :: suite) pos2] [] [] pos) (tS G (sTry ids F F2)) :=
  PS_imp (ps_try_hot (tb := fun W => tS { G with W := W } F) (ts := fun _ _ _ => tS G F2) hs hf hc tk hb hsu) fun D σ H ⟨w, e, s, I, h⟩ => by
    refine ⟨w, e, s, I.wish _, ?_⟩
    unfold sTry at h
    cases q : F e s with
    | bad => rw [q] at h; exact h
    | nx e1 s1 => rw [q] at h; exact fun w' σ' H' J x => h w' σ' H' J.unwish x
    | bk e1 s1 => rw [q] at h; exact fun w' σ' H' J x => h w' σ' H' J.unwish x
    | ct e1 s1 => rw [q] at h; exact fun w' σ' H' J x => h w' σ' H' J.unwish x
    | rt d s1 => rw [q] at h; exact fun w' e' σ' v H' J x => h w' e' σ' v H' J.unwish x
    | ex y e1 s1 =>
      rw [q] at h
      simp only at h
      intro w' σ' H' cls d J x r
      obtain ⟨id, fds, C, fns, dd, vs, r1, r2, r3, r4, r5, r6, r7⟩ := id r
      subst r3
      have hid : exId y = id := by rw [r1]; simp
      rw [hid] at h
      refine ⟨ids.contains id, ct id C fns r2, fun e1' a ha => ?_, fun e1' => ?_⟩
      · rw [if_pos e1'] at h
        exact ⟨w', _, s1, J.unwish, kS_ext x h⟩
      · rw [if_neg (by rw [e1']; decide)] at h
        exact h w' σ' H' _ d J.unwish x r
theorem ds_tryX {A : Value} {ids : List Nat} {x : Str} {body suite : List Stmt} {b0 : Stmt} {np pos pos2 : Pos} {F F2 : FS} (hs : X.stack = X.env :: X.outer) (hf : X.env.frame = some X.env.locals) (hc : Names X x A) (ct : Catches X G A ids) (hpa : ∀ hd : Option Value, PassesOwnAt (model X.prog X.w) (X.A.mark hd) X.A X.env X.xe) (tk : Takes X G.W)
    (hb : ∀ (W : WX) (pn : List (Addr × Obj)) (xe : Value → Shared → Prop), L2N.Takes (X.tr pn xe) W → PassesOwn (model X.prog X.w) X.A X.env xe → PSs (X.tr pn xe) body (tS { G with W := W } F))
    (hsu : ∀ (a : Addr) (oe : Obj) (cls : Value) (d : Option Addr) (pn : List (Addr × Obj)), L2H.HotC (L2H.suiteX X a ((a, oe) :: pn)) → PSs (L2H.suiteX X a ((a, oe) :: pn)) (b0 :: suite) (tS G F2)) :
    PS X (.Try body [.ExceptHandler (some (.Name x np)) none (b0 :: suite) pos2] [] [] pos) (tS G (sTry ids F F2)) :=
  PS_imp (L2H.ps_try_onlyX (tb := fun W => tS { G with W := W } F) (ts := fun _ _ _ => tS G F2) hs hf hc hpa tk (fun W pn xe h1 _ h2 => hb W pn xe h1 h2) fun a oe cls d pn _ _ _ hot => hsu a oe cls d pn hot) fun D σ H ⟨w, e, s, I, h⟩ => by
    refine ⟨w, e, s, I.wish _, ?_⟩
    unfold sTry at h
    cases q : F e s with
    | bad => rw [q] at h; exact h
    | nx e1 s1 => rw [q] at h; exact fun w' σ' H' J x => h w' σ' H' J.unwish x
    | bk e1 s1 => rw [q] at h; exact fun w' σ' H' J x => h w' σ' H' J.unwish x
    | ct e1 s1 => rw [q] at h; exact fun w' σ' H' J x => h w' σ' H' J.unwish x
    | rt d s1 => rw [q] at h; exact fun w' e' σ' v H' J x => h w' e' σ' v H' J.unwish x
    | ex y e1 s1 =>
      rw [q] at h
      simp only at h
      intro w' σ' H' cls d J x r
      obtain ⟨id, fds, C, fns, dd, vs, r1, r2, r3, r4, r5, r6, r7⟩ := id r
      subst r3
      have hid : exId y = id := by rw [r1]; simp
      rw [hid] at h
      refine ⟨ids.contains id, ct id C fns r2, fun e1' a ha => ?_, fun e1' => ?_⟩
      · rw [if_pos e1'] at h
        exact ⟨w', _, s1, J.unwish, kS_ext x h⟩
      · rw [if_neg (by rw [e1']; decide)] at h
        exact h w' σ' H' _ d J.unwish x r
end
end DL
namespace PySem
namespace ExF
open PySem.W PySem.Calls PyProof.Rows PySem.HandSPX
section
variable {prog : Program} {w : World} {A : Around} {R : Result → Shared → Prop} {s : Shared} {K : Frag} {C B fI : Addr}
theorem made_ofN (T : ExC K C B fI) {us : List Value} {f : Str → Option Value} (hl : us.length ≤ 1000) (X : K.In s.heap) (hlim : s.heap.NoLimit) (hroom : A.depth + 1 < recursionLimit)
    (init : ∀ {A : Around} {R : Result → Shared → Prop} {s : Shared} {x t0 : Addr}, K.In s.heap → s.heap.NoLimit → s.heap.get? x = some (excO C t0) → K.lookup x = none → A.depth < recursionLimit → (∀ h2 tk d, Begun s.heap h2 x C d t0 f → R (.ok (.ret .none)) { s with heap := h2, toks := tk }) → codeAny (model prog w) A (.call (.ref fI) ⟨.ref x :: us, []⟩) R s)
    (hq : ∀ h2 tk e d, Made s.heap h2 e C d f → (∃ oe, h2.get? e = some oe ∧ PXN.CtxN oe) → R (.ok (.ret (.ref e))) { s with heap := h2, toks := tk }) : codeAny (model prog w) A (.call (.ref C) ⟨us, []⟩) R s := by
  obtain ⟨nm, q, N, bs, sn, sub, ab, col, dd, k0, k1, k2, k3, k5, hC⟩ := T.cls
  obtain ⟨hp, g, dr, tk, os⟩ := s
  have up : ∀ b o, hp.get? b = some o → ((hp.push (kdv_tup us)).push (excO C hp.objs.size)).get? b = some o := fun b o e => Heap.get?_push_of_some _ (Heap.get?_push_of_some _ e)
  have at_ : ((hp.push (kdv_tup us)).push (excO C hp.objs.size)).get? (hp.objs.size + 1) = some (excO C hp.objs.size) := by heap_get
  have none_ : K.lookup (hp.objs.size + 1) = none := by
    cases e : K.lookup (hp.objs.size + 1) with
    | none => rfl
    | some o => exact absurd (Nat.lt_of_succ_lt (Heap.lt_size (show hp.get? (hp.objs.size + 1) = some o from X _ _ e))) (Nat.lt_irrefl _)
  refine call_own F.excBase_Exception (fun Y => by rw [List.contains_cons]; rfl) (X _ _ hC) (looks_findIn X T.iC) (fun self => bind_fn X self T.tI) (one_line hl) ?_
  refine init (s := ⟨(hp.push (kdv_tup us)).push (excO C hp.objs.size), g, dr, tk, os⟩) (X.keeps up) (hlim.keeps up) at_ none_ (show A.depth + 1 < recursionLimit from hroom) fun h2 tk2 d BB => ?_
  have big : hp.objs.size + 1 + 1 ≤ d := by
    have q := BB.big
    first
      | exact q
      | (simpa only [Heap.size_push] using q)
  exact ⟨rfl, hq h2 tk2 (hp.objs.size + 1) d ⟨fun b o e => BB.keep b o (Nat.ne_of_lt (Nat.lt_succ_of_lt (Heap.lt_size e))) (up b o e), Nat.le_succ _, ⟨_, _, BB.obj, rfl, rfl, rfl, rfl⟩, Nat.le_trans (Nat.le_trans (Nat.le_succ _) (Nat.le_succ _)) big, BB.ne, BB.ns⟩ ⟨_, BB.obj, fun vs e => by cases e; rfl⟩⟩
end
end ExF
end PySem
namespace DL
open PySem PySem.Spec PyProof.Rows L2 PySem.ExF
section
variable {X : Cx} {G : Gx} {C B fI : Addr}
theorem pmk_exN {a : Expr} {es : List Expr} {x : Str} {ta : TA} {p pos : Pos} {k : Nat} {fns : List Str} (T : ExC X.K C B fI) (hf : fns.length ≤ 1000) (hmg : X.mg x = some (.ref C)) (hr : L2H.RoomH k X.A) (ha : PA X (a :: es) ta) (fm : List Value → Str → Option Value)
    (made : ∀ {A : Around} {R : Result → Shared → Prop} {s : Shared} {us : List Value}, us.length = fns.length → X.K.In s.heap → s.heap.NoLimit → A.depth + 1 < recursionLimit → (∀ h2 tk e d, Made s.heap h2 e C d (fm us) → (∃ oe, h2.get? e = some oe ∧ PXN.CtxN oe) → R (.ok (.ret (.ref e))) { s with heap := h2, toks := tk }) → codeAny (model X.prog X.w) A (.call (.ref C) ⟨us, []⟩) R s)
    (hfm : ∀ (vs : List V) (us : List Value), Vals vs us → vs.length = fns.length → ∀ f, RelO ((fns.zip vs).lookup f) (fm us f)) (hg : Gl X x := by rfl) (hdb : (x == ("__debug__" : Str)) = false := by decide)
    (he : starEach (a :: es) X.env = (false, eval a X.env) :: starEach es X.env := by rfl) (hpl : (backTo pos (starEach es X.env)).any (·.1) = false := by rfl) : L2N.PMk X (.Call (.Name x p) (a :: es) [] pos) (tMkEx C fns ta) := by
  intro pins s σ H Q I h
  refine wpAny_Call_Name_kw (ld_glob I hg hmg ?_ hdb)
  refine PySem.W.callWith_K (h₀ := X.base) I.ok.mod.kin T.kC (thn (ha.run pos pins s σ H _ I h) fun us s1 ⟨vs, H1, I1, r1, hl, q1⟩ => ⟨I1.kIn, ?_⟩) he hpl
  show wpAny _ _ (call (.ref C) us) _ _ _
  have hlim := I1.nolimit
  have hus : us.length = fns.length := by rw [← hl]; exact (Paired.length r1).symm
  obtain ⟨hp, g, dr, tk, os⟩ := s1
  refine wpAny_call (made hus I1.kIn hlim (by have := hr.dp; omega) fun h2 tk2 e d M ⟨oc, hoc, ctx⟩ => ?_)
  show L2N.MkP X pins σ Q (.ref e) ⟨h2, g, dr, tk2, os⟩
  obtain ⟨oe, fv, hoe, hc, hd, hdat, h1⟩ := M.obj
  rw [hoe] at hoc
  rw [← Option.some.inj hoc] at ctx
  obtain ⟨G2, g1, g2⟩ := restrict h2 fun b => decide (b ≠ e)
  have same : ∀ b, b ≠ e → G2.get? b = h2.get? b := fun b hb => g1 b (decide_eq_true hb)
  have gone : G2.get? e = none := g2 e (by simp)
  have old : ∀ b o, hp.get? b = some o → G2.get? b = some o := fun b o q => (same b (Nat.ne_of_lt (Nat.lt_of_lt_of_le (Heap.lt_size q) M.new))).trans (M.keep b o q)
  have ob : ObjOk X.prog X.w (upd H1 d (.xd (fns.zip vs))) G2 d (.xd (fns.zip vs)) := ⟨_, M.ns.at (fun o q => (same d M.ne).trans q), hfm vs us r1 hl⟩
  have J : Inv X pins σ (upd H1 d (.xd (fns.zip vs))) ⟨G2, g, dr, tk2, os⟩ := I1.laid (t' := tk2) old M.big ob
  refine ⟨e, oe, fv, ⟨G2, g, dr, tk2, os⟩, _, .ref C, some d, rfl, J, fun b o q => ?_, gone, hoe, ⟨hc, hd, ctx⟩, hdat, h1, ?_, rfl, I1.bare, raises_own T.exC T.tyC, q1 d (I1.hok.fresh M.big)⟩
  · by_cases hb : b = e
    · rw [hb] at q
      exact absurd (show G2.get? e = some o from q) (by rw [gone]; simp)
    · exact (same b hb).symm.trans q
  · rw [upd_ne (Ne.symm M.ne)]
    exact I1.hok.fresh M.new
end
end DL
namespace LW
open PySem DL
noncomputable section
@[simp] def c_LETTERS : FE := fC (.str "abcdefghijklmnopqrstuvwxyz0123456789")
@[simp] def c_MOST_AGE : FE := fC (.int 6)
@[simp] def c_MOST_BUSES : FE := fC (.int 6)
@[simp] def c_MOST_DELAY : FE := fC (.int 20)
@[simp] def c_MOST_GUARDS : FE := fC (.int 16)
@[simp] def c_MOST_LINES : FE := fC (.int 8)
@[simp] def c_MOST_SOURCES : FE := fC (.int 3)
@[simp] def c_MOST_TICKS : FE := fC (.int 40)
@[simp] def c_MOST_X : FE := fC (.int 1000)
@[simp] def c_WORDS : FE := fC (.tuple [(.str "bus"), (.str "line"), (.str "source"), (.str "guard"), (.str "error"), (.str "breaker"), (.str "ticks"), (.str "over"), (.str "reach"), (.str "difference"), (.str "behind"), (.str "forward"), (.str "delay"), (.str "opens")])
def C1_common : FT := fun e s => (fB (fBin gGt2 (fVar 1) (fC (.int 0)))) e s
def B1_common : FS := fun e s => (sPar 0 1 (fCons (fVar 1) (fCons (fBin gMod (fVar 0) (fVar 1)) fNil))) e s
def F_common : FS := (sSeq (sPar 0 1 (fCons (fCall gAbs (fCons (fVar 0) fNil)) (fCons (fCall gAbs (fCons (fVar 1) fNil)) fNil)))
    (sSeq (sWhile C1_common B1_common)
    (sRet (fVar 0))))
def g_common : List Dat → Sto → Res Dat := runN 2 2 F_common
def E1_is_frac : FE := fun e s => (fAndV (fUn (gIsi "int") (fVar 1)) (fNotV (fUn (gIsi "bool") (fVar 1)))) e s
def F_is_frac : FS := (sSeq (sIf (fOr (fNot (fB (fUn (gIsi "tuple") (fVar 0)))) (fB (fBin gNe (fCall gLen2 (fCons (fVar 0) fNil)) (fC (.int 2))))) (sRet (fC (.bool false))) sNext)
    (sSeq (sIf (fNot (fB (fCall gAll (fCons (fLc (fIter (fVar 0)) (gSet 1) cYes E1_is_frac [1]) fNil)))) (sRet (fC (.bool false))) sNext)
    (sRet (fAndV (fBin gGt2 (fBin gIx3 (fVar 0) (fC (.int 1))) (fC (.int 0))) (fBin gEq (fCallD g_common (fCons (fBin gIx3 (fVar 0) (fC (.int 0))) (fCons (fBin gIx3 (fVar 0) (fC (.int 1))) fNil))) (fC (.int 1)))))))
def g_is_frac : List Dat → Sto → Res Dat := runN 1 2 F_is_frac
def F_sign_of : FS := (sRet (fIf (fB (fBin gGt2 (fVar 0) (fC (.int 0)))) (fC (.int 1)) (fIf (fB (fBin gEq (fVar 0) (fC (.int 0)))) (fC (.int 0)) (fUn gNeg (fC (.int 1))))))
def g_sign_of : List Dat → Sto → Res Dat := runN 1 1 F_sign_of
def F_compare : FS := (sRet (fCallD g_sign_of (fCons (fBin gSub (fBin gMul2 (fBin gIx3 (fVar 0) (fC (.int 0))) (fBin gIx3 (fVar 1) (fC (.int 1)))) (fBin gMul2 (fBin gIx3 (fVar 1) (fC (.int 0))) (fBin gIx3 (fVar 0) (fC (.int 1))))) fNil)))
def g_compare : List Dat → Sto → Res Dat := runN 2 2 F_compare
def E1_is_name : FE := fun e s => (fBin gIn3 (fVar 1) c_LETTERS) e s
def F_is_name : FS := (sSeq (sIf (fOr (fNot (fB (fUn (gIsi "str") (fVar 0)))) (fOr (fNot (fB (fChain gLe gLe (fC (.int 1)) (fCall gLen2 (fCons (fVar 0) fNil)) (fC (.int 8))))) (fB (fBin gIn3 (fVar 0) c_WORDS)))) (sRet (fC (.bool false))) sNext)
    (sRet (fAndV (fBin gIn3 (fBin gIx3 (fVar 0) (fC (.int 0))) (fSl c_LETTERS fNo (fSome (fC (.int 26))))) (fCall gAll (fCons (fLc (fIter (fVar 0)) (gSet 1) cYes E1_is_name [1]) fNil)))))
def g_is_name : List Dat → Sto → Res Dat := runN 1 2 F_is_name
def F_is_whole : FS := (sRet (fAndV (fUn (gIsi "int") (fVar 0)) (fAndV (fNotV (fUn (gIsi "bool") (fVar 0))) (fChain gLe gLe (fVar 1) (fVar 0) (fVar 2)))))
def g_is_whole : List Dat → Sto → Res Dat := runN 3 3 F_is_whole
def E1_breakers_of : FE := fun e s => (fTup (fCons (fBin gIx3 (fVar 2) (fC (.int 0))) (fCons (fVar 3) fNil))) e s
def E2_breakers_of : FE := fun e s => (fTup (fCons (fBin gIx3 (fVar 4) (fC (.int 0))) (fCons (fC (.int 0)) fNil))) e s
def F_breakers_of : FS := (sSeq (sSet 1 (fLc2 (fIter (fBin gIx3 (fVar 0) (fC (.int 1)))) (gSet 2) cYes (fIter (fTup (fCons (fC (.int 0)) (fCons (fC (.int 1)) fNil)))) (gSet 3) cYes E1_breakers_of [2, 3] [3]))
    (sRet (fBin gAdd (fVar 1) (fLc (fIter (fBin gIx3 (fVar 0) (fC (.int 2)))) (gSet 4) cYes E2_breakers_of [4]))))
def g_breakers_of : List Dat → Sto → Res Dat := runN 1 5 F_breakers_of
def F_is_above : FS := (sRet (fAndV (fCallD g_is_frac (fCons (fVar 0) fNil)) (fAndV (fBin gGt2 (fBin gIx3 (fVar 0) (fC (.int 0))) (fC (.int 0))) (fAndV (fBin gLe2 (fBin gIx3 (fVar 0) (fC (.int 0))) c_MOST_X) (fBin gLe2 (fBin gIx3 (fVar 0) (fC (.int 1))) c_MOST_X)))))
def g_is_above : List Dat → Sto → Res Dat := runN 1 1 F_is_above
def F_is_told : FS := (sSeq (sIf (fOr (fNot (fB (fUn (gIsi "tuple") (fVar 0)))) (fOr (fB (fBin gEq (fCall gLen2 (fCons (fVar 0) fNil)) (fC (.int 0)))) (fNot (fB (fUn (gIsi "str") (fBin gIx3 (fVar 0) (fC (.int 0)))))))) (sRet (fC (.bool false))) sNext)
    (sSeq (sSet 3 (fBin gIx3 (fVar 0) (fC (.int 0))))
    (sSeq (sIf (fB (fBin gEq (fVar 3) (fC (.str "over")))) (sRet (fAndV (fBin gEq (fCall gLen2 (fCons (fVar 0) fNil)) (fC (.int 4))) (fAndV (fBin gIn3 (fBin gIx3 (fVar 0) (fC (.int 1))) (fVar 1)) (fAndV (fCallD g_is_above (fCons (fBin gIx3 (fVar 0) (fC (.int 2))) fNil)) (fUn (gIsi "bool") (fBin gIx3 (fVar 0) (fC (.int 3)))))))) sNext)
    (sSeq (sIf (fB (fBin gEq (fVar 3) (fC (.str "reach")))) (sRet (fAndV (fBin gEq (fCall gLen2 (fCons (fVar 0) fNil)) (fC (.int 3))) (fAndV (fBin gIn3 (fBin gIx3 (fVar 0) (fC (.int 1))) (fVar 1)) (fCallD g_is_above (fCons (fBin gIx3 (fVar 0) (fC (.int 2))) fNil))))) sNext)
    (sSeq (sIf (fB (fBin gEq (fVar 3) (fC (.str "difference")))) (sRet (fAndV (fBin gEq (fCall gLen2 (fCons (fVar 0) fNil)) (fC (.int 3))) (fAndV (fBin gIn3 (fBin gIx3 (fVar 0) (fC (.int 1))) (fVar 2)) (fCallD g_is_above (fCons (fBin gIx3 (fVar 0) (fC (.int 2))) fNil))))) sNext)
    (sRet (fAndV (fBin gEq (fVar 3) (fC (.str "behind"))) (fAndV (fBin gEq (fCall gLen2 (fCons (fVar 0) fNil)) (fC (.int 2))) (fBin gIn3 (fBin gIx3 (fVar 0) (fC (.int 1))) (fVar 1))))))))))
def g_is_told : List Dat → Sto → Res Dat := runN 3 4 F_is_told
def F_is_rules : FS := (sSeq (sIf (fOr (fNot (fB (fUn (gIsi "tuple") (fVar 0)))) (fOr (fB (fBin gNe (fCall gLen2 (fCons (fVar 0) fNil)) (fC (.int 4)))) (fNot (fB (fCallD g_is_frac (fCons (fBin gIx3 (fVar 0) (fC (.int 0))) fNil)))))) (sRet (fC (.bool false))) sNext)
    (sSeq (sAsg (fVar 0) (gTupT 4 (gsCons (gSet 1) (gsCons (gSet 2) (gsCons (gSet 3) (gsCons (gSet 4) gsNil))))))
    (sSeq (sIf (fOr (fB (fBin gGt2 (fCallD g_compare (fCons (fTup (fCons (fC (.int 0)) (fCons (fC (.int 1)) fNil))) (fCons (fVar 1) fNil))) (fC (.int 0)))) (fOr (fB (fBin gGe2 (fCallD g_compare (fCons (fVar 1) (fCons (fTup (fCons (fC (.int 1)) (fCons (fC (.int 1)) fNil))) fNil))) (fC (.int 0)))) (fB (fBin gGt2 (fBin gIx3 (fVar 1) (fC (.int 1))) c_MOST_X)))) (sRet (fC (.bool false))) sNext)
    (sRet (fAndV (fCallD g_is_whole (fCons (fVar 3) (fCons (fC (.int 1)) (fCons c_MOST_AGE fNil)))) (fAndV (fCallD g_is_whole (fCons (fVar 2) (fCons (fC (.int 1)) (fCons (fVar 3) fNil)))) (fCallD g_is_whole (fCons (fVar 4) (fCons (fC (.int 1)) (fCons c_MOST_TICKS fNil))))))))))
def g_is_rules : List Dat → Sto → Res Dat := runN 1 5 F_is_rules
def F_check : FS := (sIf (fNot (fB (fVar 0))) (sRaise 2 2 (fCons (fVar 1) (fCons (fVar 2) fNil))) sNext)
def g_check : List Dat → Sto → Res Dat := runF 3 3 F_check
def E1_check_lists : FE := fun e s => (fUn (gIsi "tuple") (fVar 10)) e s
def E2_check_lists : FE := fun e s => (fTup (fCons (fVar 11) fNil)) e s
def B3_check_lists : FS := fun e s => (sSeq (sDrop (fCall g_check (fCons (fAndV (fUn (gIsi "tuple") (fVar 7)) (fAndV (fBin gGt2 (fCall gLen2 (fCons (fVar 7) fNil)) (fC (.int 0))) (fCallD g_is_name (fCons (fBin gIx3 (fVar 7) (fC (.int 0))) fNil)))) (fCons (fC .none) (fCons (fC (.str "name")) fNil)))))
    (sSeq (sDrop (fCall g_check (fCons (fHas 6 true (fBin gIx3 (fVar 7) (fC (.int 0)))) (fCons (fBin gIx3 (fVar 7) (fC (.int 0))) (fCons (fC (.str "told twice")) fNil)))))
    (sPutOwn 6 (fBin gIx3 (fVar 7) (fC (.int 0))) (fC (.bool true))))) e s
def B4_check_lists : FS := fun e s => (sSeq (sDrop (fCall g_check (fCons (fAndV (fBin gEq (fCall gLen2 (fCons (fVar 8) fNil)) (fC (.int 4))) (fAndV (fBin gIn3 (fBin gIx3 (fVar 8) (fC (.int 1))) (fVar 1)) (fAndV (fBin gIn3 (fBin gIx3 (fVar 8) (fC (.int 2))) (fVar 1)) (fBin gNe (fBin gIx3 (fVar 8) (fC (.int 1))) (fBin gIx3 (fVar 8) (fC (.int 2))))))) (fCons (fBin gIx3 (fVar 8) (fC (.int 0))) (fCons (fC (.str "buses")) fNil)))))
    (sDrop (fCall g_check (fCons (fCallD g_is_whole (fCons (fBin gIx3 (fVar 8) (fC (.int 3))) (fCons (fC (.int 1)) (fCons c_MOST_X fNil)))) (fCons (fBin gIx3 (fVar 8) (fC (.int 0))) (fCons (fC (.str "number")) fNil)))))) e s
def B5_check_lists : FS := fun e s => (sSeq (sDrop (fCall g_check (fCons (fAndV (fBin gEq (fCall gLen2 (fCons (fVar 9) fNil)) (fC (.int 3))) (fBin gIn3 (fBin gIx3 (fVar 9) (fC (.int 1))) (fVar 1))) (fCons (fBin gIx3 (fVar 9) (fC (.int 0))) (fCons (fC (.str "buses")) fNil)))))
    (sDrop (fCall g_check (fCons (fCallD g_is_whole (fCons (fBin gIx3 (fVar 9) (fC (.int 2))) (fCons (fC (.int 1)) (fCons c_MOST_X fNil)))) (fCons (fBin gIx3 (fVar 9) (fC (.int 0))) (fCons (fC (.str "number")) fNil)))))) e s
def F_check_lists : FS := (sSeq (sDrop (fCall g_check (fCons (fAndV (fUn (gIsi "tuple") (fVar 0)) (fBin gEq (fCall gLen2 (fCons (fVar 0) fNil)) (fC (.int 5)))) (fCons (fC .none) (fCons (fC (.str "form")) fNil)))))
    (sSeq (sDrop (fCall g_check (fCons (fCall gAll (fCons (fLc (fIter (fVar 0)) (gSet 10) cYes E1_check_lists [10]) fNil)) (fCons (fC .none) (fCons (fC (.str "form")) fNil)))))
    (sSeq (sAsg (fVar 0) (gTupT 5 (gsCons (gSet 1) (gsCons (gSet 2) (gsCons (gSet 3) (gsCons (gSet 4) (gsCons (gSet 5) gsNil)))))))
    (sSeq (sDrop (fCall g_check (fCons (fAndV (fChain gLe gLe (fC (.int 1)) (fCall gLen2 (fCons (fVar 1) fNil)) c_MOST_BUSES) (fBin gLe2 (fCall gLen2 (fCons (fVar 2) fNil)) c_MOST_LINES)) (fCons (fC .none) (fCons (fC (.str "many")) fNil)))))
    (sSeq (sDrop (fCall g_check (fCons (fAndV (fChain gLe gLe (fC (.int 1)) (fCall gLen2 (fCons (fVar 3) fNil)) c_MOST_SOURCES) (fBin gLe2 (fCall gLen2 (fCons (fVar 4) fNil)) c_MOST_GUARDS)) (fCons (fC .none) (fCons (fC (.str "many")) fNil)))))
    (sSeq (sDict 6)
    (sSeq (sFor (fIter (fLst (fStar (fLc (fIter (fVar 1)) (gSet 11) cYes E2_check_lists [11]) (fStar (fVar 2) (fStar (fVar 3) (fStar (fVar 4) fNil)))))) (gSet 7) B3_check_lists)
    (sSeq (sFor (fIter (fVar 2)) (gSet 8) B4_check_lists)
    (sFor (fIter (fVar 3)) (gSet 9) B5_check_lists)))))))))
def g_check_lists : List Dat → Sto → Res Dat := runF 1 12 F_check_lists
def E1_check_net : FE := fun e s => (fBin gIx3 (fVar 10) (fC (.int 0))) e s
def E2_check_net : FE := fun e s => (fBin gIn3 (fVar 11) (fVar 6)) e s
def E3_check_net : FE := fun e s => (fBin gLt2 (fVar 11) (fVar 12)) e s
def B4_check_net : FS := fun e s => (sSeq (sDrop (fCall g_check (fCons (fAndV (fBin gEq (fCall gLen2 (fCons (fVar 8) fNil)) (fC (.int 4))) (fCallD g_is_told (fCons (fBin gIx3 (fVar 8) (fC (.int 1))) (fCons (fVar 6) (fCons (fVar 7) fNil))))) (fCons (fBin gIx3 (fVar 8) (fC (.int 0))) (fCons (fC (.str "told")) fNil)))))
    (sSeq (sDrop (fCall g_check (fCons (fCallD g_is_whole (fCons (fBin gIx3 (fVar 8) (fC (.int 2))) (fCons (fC (.int 0)) (fCons c_MOST_DELAY fNil)))) (fCons (fBin gIx3 (fVar 8) (fC (.int 0))) (fCons (fC (.str "delay")) fNil)))))
    (sSeq (sSet 9 (fBin gIx3 (fVar 8) (fC (.int 3))))
    (sSeq (sDrop (fCall g_check (fCons (fAndV (fUn (gIsi "tuple") (fVar 9)) (fBin gGt2 (fCall gLen2 (fCons (fVar 9) fNil)) (fC (.int 0)))) (fCons (fBin gIx3 (fVar 8) (fC (.int 0))) (fCons (fC (.str "opens")) fNil)))))
    (sSeq (sDrop (fCall g_check (fCons (fCall gAll (fCons (fLc (fIter (fVar 9)) (gSet 11) cYes E2_check_net [11]) fNil)) (fCons (fBin gIx3 (fVar 8) (fC (.int 0))) (fCons (fC (.str "opens")) fNil)))))
    (sDrop (fCall g_check (fCons (fCall gAll (fCons (fLc (fItA gZip (fCons (fVar 9) (fCons (fSl (fVar 9) (fSome (fC (.int 1))) fNo) fNil))) (gTupT 2 (gsCons (gSet 11) (gsCons (gSet 12) gsNil))) cYes E3_check_net [11, 12]) fNil)) (fCons (fBin gIx3 (fVar 8) (fC (.int 0))) (fCons (fC (.str "opens")) fNil)))))))))) e s
def F_check_net : FS := (sSeq (sDrop (fCall g_check_lists (fCons (fVar 0) fNil)))
    (sSeq (sAsg (fVar 0) (gTupT 5 (gsCons (gSet 1) (gsCons (gSet 2) (gsCons (gSet 3) (gsCons (gSet 4) (gsCons (gSet 5) gsNil)))))))
    (sSeq (sAsg (fTup (fCons (fCallD g_breakers_of (fCons (fVar 0) fNil)) (fCons (fLst (fStar (fVar 1) (fStar (fLc (fIter (fVar 2)) (gSet 10) cYes E1_check_net [10]) fNil))) fNil))) (gTupT 2 (gsCons (gSet 6) (gsCons (gSet 7) gsNil))))
    (sSeq (sFor (fIter (fVar 4)) (gSet 8) B4_check_net)
    (sDrop (fCall g_check (fCons (fCallD g_is_rules (fCons (fVar 5) fNil)) (fCons (fC .none) (fCons (fC (.str "rules")) fNil)))))))))
def g_check_net : List Dat → Sto → Res Dat := runF 1 13 F_check_net
def F_is_net : FS := (sSeq (sTry [2] (sDrop (fCall g_check_net (fCons (fVar 0) fNil))) (sRet (fC (.bool false))))
    (sRet (fC (.bool true))))
def g_is_net : List Dat → Sto → Res Dat := runN 1 1 F_is_net
def F__law_cell_at : FS := (sSeq (sIf (fB (fBin gLt2 (fVar 1) (fCall gLen2 (fCons (fVar 0) fNil)))) (sRet (fBin gIx3 (fVar 0) (fVar 1))) sNext)
    (sRet (fC (.int 0))))
def g__law_cell_at : List Dat → Sto → Res Dat := runN 2 2 F__law_cell_at
def F__law_draw : FS := (sSeq (sSet 3 (fTup (fCons (fC (.int 1000003)) (fCons (fC (.int 1000033)) (fCons (fC (.int 1000037)) (fCons (fC (.int 1000039)) (fCons (fC (.int 1000081)) (fCons (fC (.int 1000099)) (fCons (fC (.int 1000117)) (fCons (fC (.int 1000121)) (fCons (fC (.int 1000133)) (fCons (fC (.int 1000151)) (fCons (fC (.int 1000159)) (fCons (fC (.int 1000171)) (fCons (fC (.int 1000183)) (fCons (fC (.int 1000187)) (fCons (fC (.int 1000193)) (fCons (fC (.int 1000199)) fNil))))))))))))))))))
    (sRet (fBin gMod (fBin gMod (fCall gInt2 (fCons (fBin gAdd (fBin gMul2 (fVar 0) (fC (.int 48271))) (fBin gMul2 (fVar 1) (fC (.int 69621)))) fNil)) (fBin gIx3 (fVar 3) (fBin gMod (fCall gInt2 (fCons (fVar 1) fNil)) (fC (.int 16))))) (fVar 2))))
def g__law_draw : List Dat → Sto → Res Dat := runN 3 4 F__law_draw
def B1__law_number : FS := fun e s => (sSet 3 (fBin gMul2 (fVar 3) (fC (.int 1009)))) e s
def F__law_number : FS := (sSeq (sSet 3 (fC (.int 1)))
    (sSeq (sFor (fItA gRng1 (fCons (fBin gMod (fCall gInt2 (fCons (fVar 1) fNil)) (fC (.int 24))) fNil)) (gSet 4) B1__law_number)
    (sSeq (sSet 5 (fBin gDiv (fBin gSub (fVar 0) (fBin gPow (fC (.int 10)) (fC (.int 18)))) (fVar 3)))
    (sSeq (sIf (fB (fBin gGt2 (fVar 5) (fC (.int 0)))) (sRet (fBin gMod (fBin gMod (fCall gInt2 (fCons (fVar 5) fNil)) (fC (.int 1009))) (fVar 2))) sNext)
    (sSeq (sSet 6 (fBin gMod (fCall gInt2 (fCons (fVar 0) fNil)) (fC (.int 1000003))))
    (sRet (fBin gMod (fCallD g__law_draw (fCons (fBin gMul2 (fBin gAdd (fVar 6) (fBin gMul2 (fC (.int 977)) (fVar 1))) (fBin gAdd (fBin gAdd (fVar 6) (fBin gMul2 (fC (.int 31)) (fVar 1))) (fC (.int 5)))) (fCons (fBin gAdd (fBin gMod (fCall gInt2 (fCons (fVar 1) fNil)) (fC (.int 9))) (fC (.int 1))) (fCons (fC (.int 999983)) fNil)))) (fVar 2))))))))
def g__law_number : List Dat → Sto → Res Dat := runN 3 7 F__law_number
def F__law_next : FS := (sSeq (sItem3 (fVar 0) (fC (.int 2)) (fBin gAdd (fBin gIx3 (fVar 0) (fC (.int 2))) (fC (.int 1))))
    (sSeq (sSet 2 (fBin gDiv (fBin gIx3 (fVar 0) (fC (.int 2))) (fC (.int 12))))
    (sSeq (sSet 3 (fBin gAdd (fCallD g__law_cell_at (fCons (fBin gIx3 (fVar 0) (fC (.int 0))) (fCons (fBin gAdd (fBin gIx3 (fVar 0) (fC (.int 1))) (fVar 2)) fNil))) (fBin gMul2 (fC (.int 31)) (fVar 2))))
    (sRet (fCallD g__law_number (fCons (fVar 3) (fCons (fBin gAdd (fBin gMod (fCall gInt2 (fCons (fBin gIx3 (fVar 0) (fC (.int 2))) fNil)) (fC (.int 12))) (fC (.int 1))) (fCons (fVar 1) fNil))))))))
def g__law_next : List Dat → Sto → Res Dat := runN 2 4 F__law_next
def F__law_pick : FS := (sRet (fBin gIx3 (fVar 1) (fCallD g__law_next (fCons (fVar 0) (fCons (fCall gLen2 (fCons (fVar 1) fNil)) fNil)))))
def g__law_pick : List Dat → Sto → Res Dat := runN 2 2 F__law_pick
def B1__law_lines : FS := fun e s => (sSeq (sSet 5 (fCallD g__law_next (fCons (fVar 0) (fCons (fCall gLen2 (fCons (fVar 1) fNil)) fNil))))
    (sSeq (sSet 6 (fBin gMod (fBin gAdd (fBin gAdd (fVar 5) (fC (.int 1))) (fCallD g__law_next (fCons (fVar 0) (fCons (fBin gSub (fCall gLen2 (fCons (fVar 1) fNil)) (fC (.int 1))) fNil)))) (fCall gLen2 (fCons (fVar 1) fNil))))
    (sAppend 2 (fTup (fCons (fBin gAdd (fC (.str "l")) (fCall gStr (fCons (fVar 4) fNil))) (fCons (fBin gIx3 (fVar 1) (fVar 5)) (fCons (fBin gIx3 (fVar 1) (fVar 6)) (fCons (fCallD g__law_pick (fCons (fVar 0) (fCons (fLst (fCons (fC (.int 1)) (fCons (fC (.int 2)) (fCons (fC (.int 5)) (fCons (fC (.int 10)) (fCons (fC (.int 30)) fNil)))))) fNil))) fNil)))))))) e s
def F__law_lines : FS := (sSeq (sParOwn 2 3 fNil (fIf (fB (fBin gGt2 (fCall gLen2 (fCons (fVar 1) fNil)) (fC (.int 1)))) (fBin gAdd (fC (.int 1)) (fCallD g__law_next (fCons (fVar 0) (fCons (fC (.int 2)) fNil)))) (fC (.int 0))))
    (sSeq (sFor (fItA gRng1 (fCons (fVar 3) fNil)) (gSet 4) B1__law_lines)
    (sFreeze 2 (sRet (fCall gTupOf2 (fCons (fVar 2) fNil))))))
def g__law_lines : List Dat → Sto → Res Dat := runN 2 7 F__law_lines
def E1__law_here : FE := fun e s => (fTup (fCons (fVar 3) (fCons (fVar 7) fNil))) e s
def C1__law_here : FT := fun e s => (fB (fBin gEq (fBin gIx3 (fTup (fCons (fVar 4) (fCons (fVar 5) fNil))) (fVar 7)) (fVar 1))) e s
def B2__law_here : FS := fun e s => (sSet 2 (fBin gAdd (fVar 2) (fLc (fIter (fTup (fCons (fC (.int 0)) (fCons (fC (.int 1)) fNil)))) (gSet 7) C1__law_here E1__law_here [7]))) e s
def E3__law_here : FE := fun e s => (fTup (fCons (fVar 3) (fCons (fC (.int 0)) fNil))) e s
def C3__law_here : FT := fun e s => (fB (fBin gEq (fVar 8) (fVar 1))) e s
def F__law_here : FS := (sSeq (sSet 2 (fLst fNil))
    (sSeq (sFor (fIter (fBin gIx3 (fVar 0) (fC (.int 1)))) (gTupT 4 (gsCons (gSet 3) (gsCons (gSet 4) (gsCons (gSet 5) (gsCons (gSet 6) gsNil))))) B2__law_here)
    (sRet (fCall gTupOf2 (fCons (fCall gSortD (fCons (fBin gAdd (fVar 2) (fLc (fIter (fBin gIx3 (fVar 0) (fC (.int 2)))) (gTupT 3 (gsCons (gSet 3) (gsCons (gSet 8) (gsCons (gSet 6) gsNil)))) C3__law_here E3__law_here [3, 8, 6])) fNil)) fNil)))))
def g__law_here : List Dat → Sto → Res Dat := runN 2 9 F__law_here
def E1__law_looks : FE := fun e s => (fBin gIx3 (fVar 6) (fC (.int 0))) e s
def F__law_looks : FS := (sSeq (sPar 3 4 (fCons (fCallD g__law_next (fCons (fVar 0) (fCons (fC (.int 6)) fNil))) (fCons (fCallD g__law_pick (fCons (fVar 0) (fCons (fVar 2) fNil))) fNil)))
    (sSeq (sSet 5 (fCallD g__law_pick (fCons (fVar 0) (fCons (fLst (fCons (fTup (fCons (fC (.int 1)) (fCons (fC (.int 100)) fNil))) (fCons (fTup (fCons (fC (.int 1)) (fCons (fC (.int 50)) fNil))) (fCons (fTup (fCons (fC (.int 1)) (fCons (fC (.int 20)) fNil))) (fCons (fTup (fCons (fC (.int 1)) (fCons (fC (.int 10)) fNil))) (fCons (fTup (fCons (fC (.int 1)) (fCons (fC (.int 5)) fNil))) (fCons (fTup (fCons (fC (.int 1)) (fCons (fC (.int 2)) fNil))) (fCons (fTup (fCons (fC (.int 2)) (fCons (fC (.int 1)) fNil))) (fCons (fTup (fCons (fC (.int 5)) (fCons (fC (.int 1)) fNil))) (fCons (fTup (fCons (fC (.int 20)) (fCons (fC (.int 1)) fNil))) fNil)))))))))) fNil))))
    (sSeq (sIf (fB (fBin gLt2 (fVar 3) (fC (.int 2)))) (sRet (fTup (fCons (fC (.str "over")) (fCons (fVar 4) (fCons (fVar 5) (fCons (fBin gEq (fCallD g__law_next (fCons (fVar 0) (fCons (fC (.int 2)) fNil))) (fC (.int 0))) fNil)))))) sNext)
    (sSeq (sIf (fB (fBin gEq (fVar 3) (fC (.int 2)))) (sRet (fTup (fCons (fC (.str "reach")) (fCons (fVar 4) (fCons (fCallD g__law_pick (fCons (fVar 0) (fCons (fLst (fCons (fTup (fCons (fC (.int 1)) (fCons (fC (.int 1)) fNil))) (fCons (fTup (fCons (fC (.int 2)) (fCons (fC (.int 1)) fNil))) (fCons (fTup (fCons (fC (.int 4)) (fCons (fC (.int 1)) fNil))) (fCons (fTup (fCons (fC (.int 8)) (fCons (fC (.int 1)) fNil))) (fCons (fTup (fCons (fC (.int 1)) (fCons (fC (.int 2)) fNil))) fNil)))))) fNil))) fNil))))) sNext)
    (sSeq (sIf (fB (fBin gEq (fVar 3) (fC (.int 3)))) (sRet (fTup (fCons (fC (.str "behind")) (fCons (fVar 4) fNil)))) sNext)
    (sRet (fTup (fCons (fC (.str "difference")) (fCons (fCallD g__law_pick (fCons (fVar 0) (fCons (fBin gAdd (fCall gLstOf2 (fCons (fBin gIx3 (fVar 1) (fC (.int 0))) fNil)) (fLc (fIter (fBin gIx3 (fVar 1) (fC (.int 1)))) (gSet 6) cYes E1__law_looks [6])) fNil))) (fCons (fCallD g__law_pick (fCons (fVar 0) (fCons (fLst (fCons (fTup (fCons (fC (.int 1)) (fCons (fC (.int 1000)) fNil))) (fCons (fTup (fCons (fC (.int 1)) (fCons (fC (.int 100)) fNil))) (fCons (fVar 5) fNil)))) fNil))) fNil))))))))))
def g__law_looks : List Dat → Sto → Res Dat := runN 3 7 F__law_looks
def B1__law_good : FS := fun e s => (sSeq (sAppend 2 (fTup (fCons (fBin gAdd (fC (.str "d")) (fCall gStr (fCons (fVar 3) fNil))) (fCons (fTup (fCons (fC (.str "difference")) (fCons (fVar 4) (fCons (fTup (fCons (fC (.int 1)) (fCons (fC (.int 1000)) fNil))) fNil)))) (fCons (fC (.int 0)) (fCons (fTup (fCons (fTup (fCons (fVar 4) (fCons (fC (.int 0)) fNil))) (fCons (fTup (fCons (fVar 4) (fCons (fC (.int 1)) fNil))) fNil))) fNil))))))
    (sSet 3 (fBin gAdd (fVar 3) (fC (.int 1))))) e s
def E2__law_good : FE := fun e s => (fVar 13) e s
def C2__law_good : FT := fun e s => (fB (fBin gNotIn3 (fVar 13) (fSl (fVar 11) fNo (fSome (fVar 12))))) e s
def B3__law_good : FS := fun e s => (sSeq (sSet 11 (fCall gSortD (fCons (fBin gAdd (fCall gLstOf2 (fCons (fCallD g__law_here (fCons (fVar 0) (fCons (fBin gIx3 (fTup (fCons (fVar 5) (fCons (fVar 6) fNil))) (fVar 10)) fNil))) fNil)) (fLst (fCons (fTup (fCons (fVar 4) (fCons (fBin gSub (fC (.int 1)) (fVar 10)) fNil))) fNil))) fNil)))
    (sSeq (sSet 11 (fLc (fItA gEnum (fCons (fVar 11) fNil)) (gTupT 2 (gsCons (gSet 12) (gsCons (gSet 13) gsNil))) C2__law_good E2__law_good [12, 13]))
    (sAppend 2 (fTup (fCons (fBin gAdd (fBin gAdd (fC (.str "f")) (fCall gStr (fCons (fVar 3) fNil))) (fCall gStr (fCons (fVar 10) fNil))) (fCons (fTup (fCons (fC (.str "behind")) (fCons (fTup (fCons (fVar 4) (fCons (fVar 10) fNil))) fNil))) (fCons (fVar 1) (fCons (fCall gTupOf2 (fCons (fVar 11) fNil)) fNil)))))))) e s
def B4__law_good : FS := fun e s => (sSeq (sFor (fItA gRng1 (fCons (fC (.int 2)) fNil)) (gSet 9) B1__law_good)
    (sFor (fIter (fTup (fCons (fC (.int 0)) (fCons (fC (.int 1)) fNil)))) (gSet 10) B3__law_good)) e s
def B5__law_good : FS := fun e s => (sSeq (sIf (fB (fBin gNe (fCallD g__law_here (fCons (fVar 0) (fCons (fVar 8) fNil))) (fTup fNil))) (sAppend 2 (fTup (fCons (fBin gAdd (fC (.str "e")) (fCall gStr (fCons (fVar 3) fNil))) (fCons (fTup (fCons (fC (.str "difference")) (fCons (fVar 8) (fCons (fTup (fCons (fC (.int 1)) (fCons (fC (.int 1000)) fNil))) fNil)))) (fCons (fC (.int 0)) (fCons (fCallD g__law_here (fCons (fVar 0) (fCons (fVar 8) fNil))) fNil)))))) sNext)
    (sSet 3 (fBin gAdd (fVar 3) (fC (.int 1))))) e s
def B6__law_good : FS := fun e s => (sFor (fItA gRng1 (fCons (fC (.int 2)) fNil)) (gSet 9) B5__law_good) e s
def F__law_good : FS := (sSeq (sParOwn 2 3 fNil (fC (.int 0)))
    (sSeq (sFor (fIter (fBin gIx3 (fVar 0) (fC (.int 1)))) (gTupT 4 (gsCons (gSet 4) (gsCons (gSet 5) (gsCons (gSet 6) (gsCons (gSet 7) gsNil))))) B4__law_good)
    (sSeq (sFor (fIter (fBin gIx3 (fVar 0) (fC (.int 0)))) (gSet 8) B6__law_good)
    (sFreeze 2 (sRet (fVar 2))))))
def g__law_good : List Dat → Sto → Res Dat := runN 2 14 F__law_good
def E1__law_net : FE := fun e s => (fTup (fCons (fBin gAdd (fC (.str "g")) (fCall gStr (fCons (fVar 12) fNil))) (fCons (fCallD g__law_pick (fCons (fVar 0) (fCons (fVar 1) fNil))) (fCons (fCallD g__law_pick (fCons (fVar 0) (fCons (fLst (fCons (fC (.int 1)) (fCons (fC (.int 3)) (fCons (fC (.int 10)) fNil)))) fNil))) fNil)))) e s
def E2__law_net : FE := fun e s => (fTup (fCons (fBin gIx3 (fVar 16) (fC (.int 0))) (fCons (fC (.int 0)) fNil))) e s
def E3__law_net : FE := fun e s => (fTup (fCons (fBin gIx3 (fVar 16) (fC (.int 0))) (fCons (fC (.int 1)) fNil))) e s
def E4__law_net : FE := fun e s => (fTup (fCons (fBin gIx3 (fVar 15) (fC (.int 0))) (fCons (fC (.int 0)) fNil))) e s
def E5__law_net : FE := fun e s => (fVar 17) e s
def C5__law_net : FT := fun e s => (fB (fBin gEq (fCallD g__law_next (fCons (fVar 0) (fCons (fC (.int 3)) fNil))) (fC (.int 0)))) e s
def B6__law_net : FS := fun e s => (sSeq (sSet 13 (fLc (fIter (fVar 7)) (gSet 17) C5__law_net E5__law_net [17]))
    (sSeq (sSet 14 (fCallD g__law_looks (fCons (fVar 0) (fCons (fVar 6) (fCons (fVar 7) fNil)))))
    (sSeq (sSet 13 (fIf (fB (fBin gNe (fVar 13) (fLst fNil))) (fVar 13) (fLst (fCons (fCallD g__law_pick (fCons (fVar 0) (fCons (fVar 7) fNil))) fNil))))
    (sAppend 9 (fTup (fCons (fBin gAdd (fC (.str "q")) (fCall gStr (fCons (fVar 11) fNil))) (fCons (fVar 14) (fCons (fCallD g__law_next (fCons (fVar 0) (fCons (fC (.int 4)) fNil))) (fCons (fCall gTupOf2 (fCons (fCall gSortD (fCons (fVar 13) fNil)) fNil)) fNil))))))))) e s
def F__law_net : FS := (sSeq (sSet 1 (fSl (fTup (fCons (fC (.str "a")) (fCons (fC (.str "b")) (fCons (fC (.str "c")) fNil)))) fNo (fSome (fBin gAdd (fC (.int 1)) (fCallD g__law_next (fCons (fVar 0) (fCons (fC (.int 3)) fNil)))))))
    (sSeq (sSet 2 (fCallD g__law_lines (fCons (fVar 0) (fCons (fVar 1) fNil))))
    (sSeq (sSet 3 (fCall gTupOf2 (fCons (fLc (fItA gRng1 (fCons (fBin gAdd (fC (.int 1)) (fCallD g__law_next (fCons (fVar 0) (fCons (fC (.int 2)) fNil)))) fNil)) (gSet 12) cYes E1__law_net [12]) fNil)))
    (sSeq (sSet 4 (fBin gAdd (fC (.int 1)) (fCallD g__law_next (fCons (fVar 0) (fCons (fC (.int 2)) fNil)))))
    (sSeq (sSet 5 (fBin gAdd (fVar 4) (fCallD g__law_next (fCons (fVar 0) (fCons (fC (.int 2)) fNil)))))
    (sSeq (sSet 6 (fTup (fCons (fVar 1) (fCons (fVar 2) (fCons (fVar 3) fNil)))))
    (sSeq (sSet 7 (fBin gAdd (fBin gAdd (fLc (fIter (fVar 2)) (gSet 16) cYes E2__law_net [16]) (fLc (fIter (fVar 2)) (gSet 16) cYes E3__law_net [16])) (fLc (fIter (fVar 3)) (gSet 15) cYes E4__law_net [15])))
    (sSeq (sIf (fAnd (fB (fBin gEq (fCallD g__law_next (fCons (fVar 0) (fCons (fC (.int 3)) fNil))) (fC (.int 0)))) (fB (fBin gLt2 (fCall gLen2 (fCons (fVar 2) fNil)) (fC (.int 2))))) (sSeq (sSet 9 (fCallD g__law_good (fCons (fVar 6) (fCons (fIf (fB (fBin gGt2 (fCallD g__law_next (fCons (fVar 0) (fCons (fC (.int 4)) fNil))) (fC (.int 0)))) (fVar 5) (fBin gSub (fVar 5) (fC (.int 1)))) fNil))))
    (sSeq (sIf (fB (fBin gEq (fCallD g__law_next (fCons (fVar 0) (fCons (fC (.int 3)) fNil))) (fC (.int 0)))) (sSeq (sSet 12 (fCallD g__law_next (fCons (fVar 0) (fCons (fLenOwn 9) fNil))))
    (sFreeze 9 (sOwnN 9 (nCat (fSl (fVar 9) fNo (fSome (fVar 12))) (fSl (fVar 9) (fSome (fBin gAdd (fVar 12) (fC (.int 1)))) fNo))))) sNext)
    (sSet 10 (fBin gAdd (fBin gMul2 (fC (.int 3)) (fVar 5)) (fC (.int 4)))))) (sSeq (sParOwn 9 10 fNil (fBin gAdd (fC (.int 3)) (fCallD g__law_next (fCons (fVar 0) (fCons (fC (.int 9)) fNil)))))
    (sFor (fItA gRng1 (fCons (fBin gAdd (fC (.int 1)) (fCallD g__law_next (fCons (fVar 0) (fCons (fC (.int 4)) fNil)))) fNil)) (gSet 11) B6__law_net)))
    (sSeq (sSet 8 (fCallD g__law_pick (fCons (fVar 0) (fCons (fLst (fCons (fTup (fCons (fC (.int 0)) (fCons (fC (.int 1)) fNil))) (fCons (fTup (fCons (fC (.int 0)) (fCons (fC (.int 1)) fNil))) (fCons (fTup (fCons (fC (.int 1)) (fCons (fC (.int 10)) fNil))) (fCons (fTup (fCons (fC (.int 1)) (fCons (fC (.int 4)) fNil))) fNil))))) fNil))))
    (sFreeze 9 (sRet (fBin gAdd (fVar 6) (fTup (fCons (fCall gTupOf2 (fCons (fSl (fVar 9) fNo (fSome (fC (.int 16)))) fNil)) (fCons (fTup (fCons (fVar 8) (fCons (fVar 4) (fCons (fVar 5) (fCons (fVar 10) fNil))))) fNil)))))))))))))))
def g__law_net : List Dat → Sto → Res Dat := runN 1 18 F__law_net
def F__law_put : FS := (sRet (fBin gAdd (fBin gAdd (fSl (fVar 0) fNo (fSome (fVar 1))) (fTup (fCons (fVar 2) fNil))) (fSl (fVar 0) (fSome (fBin gAdd (fVar 1) (fC (.int 1)))) fNo)))
def g__law_put : List Dat → Sto → Res Dat := runN 3 3 F__law_put
def E1__law_wrong : FE := fun e s => (fVar 20) e s
def C1__law_wrong : FT := fun e s => (fB (fBin gNe (fVar 20) (fVar 7))) e s
def E2__law_wrong : FE := fun e s => (fBin gAdd (fC (.str "b")) (fCall gStr (fCons (fVar 21) fNil))) e s
def F__law_wrong : FS := (sSeq (sAsg (fVar 1) (gTupT 5 (gsCons (gSet 2) (gsCons (gSet 3) (gsCons (gSet 4) (gsCons (gSet 5) (gsCons (gSet 6) gsNil)))))))
    (sSeq (sAsg (fTup (fCons (fBin gIx3 (fVar 5) (fCallD g__law_next (fCons (fVar 0) (fCons (fCall gLen2 (fCons (fVar 5) fNil)) fNil)))) (fCons (fCallD g__law_next (fCons (fVar 0) (fCons (fC (.int 24)) fNil))) fNil))) (gTupT 2 (gsCons (gSet 7) (gsCons (gSet 8) gsNil))))
    (sSeq (sAsg (fVar 7) (gTupT 4 (gsCons (gSet 9) (gsCons (gSet 10) (gsCons (gSet 11) (gsCons (gSet 12) gsNil))))))
    (sSeq (sSet 13 (fCall gTupOf2 (fCons (fLc (fIter (fVar 5)) (gSet 20) C1__law_wrong E1__law_wrong [20]) fNil)))
    (sSeq (sIf (fB (fBin gLt2 (fVar 8) (fC (.int 5)))) (sSeq (sSet 14 (fBin gIx3 (fTup (fCons (fTup (fCons (fVar 9) (fCons (fVar 10) (fCons (fUn gNeg (fC (.int 1))) (fCons (fVar 12) fNil))))) (fCons (fTup (fCons (fVar 9) (fCons (fVar 10) (fCons (fC (.int 21)) (fCons (fVar 12) fNil))))) (fCons (fTup (fCons (fVar 9) (fCons (fVar 10) (fCons (fVar 11) (fCons (fTup fNil) fNil))))) (fCons (fTup (fCons (fVar 9) (fCons (fVar 10) (fCons (fVar 11) (fCons (fBin gAdd (fVar 12) (fSl (fVar 12) fNo (fSome (fC (.int 1))))) fNil))))) (fCons (fTup (fCons (fVar 9) (fCons (fTup (fCons (fC (.str "over")) (fCons (fBin gIx3 (fVar 12) (fC (.int 0))) (fCons (fTup (fCons (fC (.int 0)) (fCons (fC (.int 1)) fNil))) (fCons (fC (.bool true)) fNil))))) (fCons (fC (.int 1)) (fCons (fVar 12) fNil))))) fNil)))))) (fVar 8)))
    (sRet (fCallD g__law_put (fCons (fVar 1) (fCons (fC (.int 3)) (fCons (fBin gAdd (fVar 13) (fTup (fCons (fVar 14) fNil))) fNil)))))) sNext)
    (sSeq (sIf (fB (fBin gLt2 (fVar 8) (fC (.int 10)))) (sSeq (sSet 15 (fBin gIx3 (fTup (fCons (fTup (fCons (fC (.str "near")) (fCons (fBin gIx3 (fVar 12) (fC (.int 0))) fNil))) (fCons (fTup (fCons (fC (.str "reach")) (fCons (fBin gIx3 (fVar 12) (fC (.int 0))) (fCons (fTup (fCons (fC (.int 2)) (fCons (fC (.int 4)) fNil))) fNil)))) (fCons (fTup (fCons (fC (.str "behind")) (fCons (fTup (fCons (fC (.str "zz")) (fCons (fC (.int 0)) fNil))) fNil))) (fCons (fTup (fCons (fC (.str "difference")) (fCons (fC (.str "zz")) (fCons (fTup (fCons (fC (.int 1)) (fCons (fC (.int 2)) fNil))) fNil)))) (fCons (fVar 10) fNil)))))) (fBin gSub (fVar 8) (fC (.int 5)))))
    (sSeq (sSet 14 (fTup (fCons (fVar 9) (fCons (fVar 15) (fCons (fC (.int 1)) (fCons (fIf (fB (fBin gLt2 (fVar 8) (fC (.int 9)))) (fVar 12) (fLst (fCons (fBin gIx3 (fVar 12) (fC (.int 0))) fNil))) fNil))))))
    (sRet (fCallD g__law_put (fCons (fVar 1) (fCons (fC (.int 3)) (fCons (fBin gAdd (fVar 13) (fTup (fCons (fVar 14) fNil))) fNil))))))) sNext)
    (sSeq (sIf (fB (fBin gLt2 (fVar 8) (fC (.int 15)))) (sSeq (sAsg (fVar 6) (gTupT 4 (gsCons (gSet 16) (gsCons (gSet 17) (gsCons (gSet 18) (gsCons (gSet 19) gsNil))))))
    (sRet (fCallD g__law_put (fCons (fVar 1) (fCons (fC (.int 4)) (fCons (fBin gIx3 (fTup (fCons (fTup (fCons (fVar 16) (fCons (fVar 17) (fCons (fBin gSub (fVar 17) (fC (.int 1))) (fCons (fVar 19) fNil))))) (fCons (fTup (fCons (fVar 16) (fCons (fC (.int 0)) (fCons (fVar 18) (fCons (fVar 19) fNil))))) (fCons (fTup (fCons (fVar 16) (fCons (fVar 17) (fCons (fC (.int 7)) (fCons (fVar 19) fNil))))) (fCons (fTup (fCons (fTup (fCons (fC (.int 1)) (fCons (fC (.int 1)) fNil))) (fCons (fVar 17) (fCons (fVar 18) (fCons (fVar 19) fNil))))) (fCons (fTup (fCons (fVar 16) (fCons (fVar 17) (fCons (fVar 18) (fCons (fC (.int 41)) fNil))))) fNil)))))) (fBin gSub (fVar 8) (fC (.int 10)))) fNil)))))) sNext)
    (sSeq (sIf (fB (fBin gLt2 (fVar 8) (fC (.int 19)))) (sRet (fCallD g__law_put (fCons (fVar 1) (fCons (fC (.int 2)) (fCons (fBin gIx3 (fTup (fCons (fTup fNil) (fCons (fBin gAdd (fVar 4) (fVar 4)) (fCons (fTup (fCons (fTup (fCons (fC (.str "g9")) (fCons (fC (.str "zz")) (fCons (fC (.int 3)) fNil)))) fNil)) (fCons (fTup (fCons (fTup (fCons (fC (.str "g9")) (fCons (fBin gIx3 (fVar 2) (fC (.int 0))) (fCons (fC (.int 0)) fNil)))) fNil)) fNil))))) (fBin gSub (fVar 8) (fC (.int 15)))) fNil))))) sNext)
    (sSeq (sIf (fB (fBin gLt2 (fVar 8) (fC (.int 22)))) (sRet (fCallD g__law_put (fCons (fVar 1) (fCons (fC (.int 0)) (fCons (fBin gIx3 (fTup (fCons (fTup fNil) (fCons (fBin gAdd (fVar 2) (fSl (fVar 2) fNo (fSome (fC (.int 1))))) (fCons (fCall gTupOf2 (fCons (fLc (fItA gRng1 (fCons (fC (.int 7)) fNil)) (gSet 21) cYes E2__law_wrong [21]) fNil)) fNil)))) (fBin gSub (fVar 8) (fC (.int 19)))) fNil))))) sNext)
    (sRet (fBin gIx3 (fTup (fCons (fBin gAdd (fVar 1) (fTup (fCons (fC (.int 0)) fNil))) (fCons (fCall gLstOf2 (fCons (fVar 1) fNil)) fNil))) (fBin gSub (fVar 8) (fC (.int 22))))))))))))))
def g__law_wrong : List Dat → Sto → Res Dat := runN 2 22 F__law_wrong
def B1_law : FS := fun e s => (sSeq (sSet 5 (fCallD g__law_wrong (fCons (fVar 1) (fCons (fVar 2) fNil))))
    (sTry [2] (sSeq (sDrop (fCall g_check_net (fCons (fVar 5) fNil)))
    (sRet (fC (.bool false)))) (sIf (fB (fCallD g_is_net (fCons (fVar 5) fNil))) (sRet (fC (.bool false))) sNext))) e s
def E2_law : FE := fun e s => (fCallD g_is_net (fCons (fCallD g__law_put (fCons (fVar 2) (fCons (fC (.int 1)) (fCons (fBin gAdd (fBin gIx3 (fVar 2) (fC (.int 1))) (fTup (fCons (fVar 6) fNil))) fNil)))) fNil)) e s
def F_law : FS := (sSeq (sCell 1 (fCons (fSl (fVar 0) fNo (fSome (fC (.int 63)))) (fCons (fC (.int 0)) (fCons (fC (.int 0)) fNil))))
    (sSeq (sSet 2 (fCallD g__law_net (fCons (fVar 1) fNil)))
    (sSeq (sDrop (fCall g_check_net (fCons (fVar 2) fNil)))
    (sSeq (sIf (fOr (fNot (fB (fCallD g_is_net (fCons (fVar 2) fNil)))) (fB (fBin gEq (fBin gIx3 (fVar 2) (fC (.int 3))) (fTup fNil)))) (sRet (fC (.bool false))) sNext)
    (sSeq (sFor (fItA gRng1 (fCons (fC (.int 4)) fNil)) (gSet 3) B1_law)
    (sSeq (sSet 4 (fLst (fCons (fTup (fCons (fC (.str "k")) (fCons (fBin gIx3 (fBin gIx3 (fVar 2) (fC (.int 0))) (fC (.int 0))) (fCons (fBin gIx3 (fBin gIx3 (fVar 2) (fC (.int 0))) (fC (.int 0))) (fCons (fC (.int 3)) fNil))))) (fCons (fTup (fCons (fC (.str "k")) (fCons (fBin gIx3 (fBin gIx3 (fVar 2) (fC (.int 0))) (fC (.int 0))) (fCons (fC (.str "zz")) (fCons (fC (.int 3)) fNil))))) (fCons (fTup (fCons (fC (.str "k")) (fCons (fBin gIx3 (fBin gIx3 (fVar 2) (fC (.int 0))) (fC (.int 0))) (fCons (fBin gIx3 (fBin gIx3 (fVar 2) (fC (.int 0))) (fUn gNeg (fC (.int 1)))) (fCons (fC (.int 1001)) fNil))))) (fCons (fTup (fCons (fC (.str "ticks")) (fCons (fBin gIx3 (fBin gIx3 (fVar 2) (fC (.int 0))) (fC (.int 0))) (fCons (fBin gIx3 (fBin gIx3 (fVar 2) (fC (.int 0))) (fUn gNeg (fC (.int 1)))) (fCons (fC (.int 3)) fNil))))) (fCons (fTup (fCons (fC (.str "nine90123")) (fCons (fBin gIx3 (fBin gIx3 (fVar 2) (fC (.int 0))) (fC (.int 0))) (fCons (fBin gIx3 (fBin gIx3 (fVar 2) (fC (.int 0))) (fUn gNeg (fC (.int 1)))) (fCons (fC (.int 3)) fNil))))) fNil)))))))
    (sRet (fAndV (fNotV (fCall gAny (fCons (fLc (fIter (fVar 4)) (gSet 6) cYes E2_law [6]) fNil))) (fAndV (fNotV (fCallD g_is_net (fCons (fC .none) fNil))) (fNotV (fCallD g_is_net (fCons (fTup fNil) fNil))))))))))))
def g_law : List Dat → Sto → Res Dat := runN 1 7 F_law
end
end LW
namespace LW
open PySem PySem.Spec PyProof.Rows L2 DL
def topS (i : Nat) : Stmt := PySem.Challenge.pw_justthepart_k05_taken_nets.main.body.getD i (.Pass ⟨0, 0, 0, 0⟩)
def inS (i j : Nat) : Stmt := match topS i with
  | .ClassDef _ _ _ body _ _ _ _ _ _ _ => body.getD j (.Pass ⟨0, 0, 0, 0⟩)
  | s => s
abbrev s_BadNet : Stmt := inS 2 0
end LW
namespace PySem
namespace ExF
open PySem.W PySem.Calls PyProof.Rows PySem.HandSPX
def iB_BadNet (p : Nat → Pos) : List Stmt := [.Assign [.Attribute (.Name "self" (p 0)) "name" (p 1)] (.Name "name" (p 2)) (p 3), .Assign [.Attribute (.Name "self" (p 4)) "why" (p 5)] (.Name "why" (p 6)) (p 7)]
structure Tx_BadNet (K : Frag) (C B fI : Addr) : Prop where
  ex : ExC K C B fI
  no1 : findIn K (.ref C) "name" = some none
  no2 : findIn K (.ref C) "why" = some none
  fn : ∃ (oc : Value) (od : Option Addr) (kV doc pm : Value) (an : Option Addr) (cdv ct : Value) (osl : Array (Option Value)), K.lookup fI = some ⟨oc, od, .func (fnOf "__init__" "BadNet.__init__" (L2.defArgs LW.s_BadNet) (L2.defBody LW.s_BadNet) (L2.defScope LW.s_BadNet) .none kV doc pm an cdv ct), osl⟩ ∧ codeIn K cdv "BadNet.__init__" = true
def fm_BadNet (us : List Value) : Str → Option Value := fun y => if y = "why" then us[1]? else if y = "name" then us[0]? else none
theorem body_BadNet : ∃ p : Nat → Pos, L2.defBody LW.s_BadNet = iB_BadNet p := ⟨fun i => ([⟨7, 8, 7, 12⟩, ⟨7, 8, 7, 17⟩, ⟨7, 20, 7, 24⟩, ⟨7, 8, 7, 24⟩, ⟨8, 8, 8, 12⟩, ⟨8, 8, 8, 16⟩, ⟨8, 19, 8, 22⟩, ⟨8, 8, 8, 22⟩] : List Pos).getD i ⟨0, 0, 0, 0⟩, by first | rfl | with_unfolding_all rfl | kernel_rfl⟩
theorem init_BadNet {prog : Program} {w : World} {K : Frag} {C B fI : Addr} (T : Tx_BadNet K C B fI) {v1 v2 : Value} {A : Around} {R : Result → Shared → Prop} {s : Shared} {x t0 : Addr} (X : K.In s.heap) (hlim : s.heap.NoLimit) (hx : s.heap.get? x = some (excO C t0)) (hnx : K.lookup x = none) (hroom : A.depth < recursionLimit)
    (hq : ∀ h2 tk d, Begun s.heap h2 x C d t0 (fm_BadNet [v1, v2]) → R (.ok (.ret .none)) { s with heap := h2, toks := tk }) : codeAny (model prog w) A (.call (.ref fI) ⟨[.ref x, v1, v2], []⟩) R s := by
  obtain ⟨oc, od, kV, doc, pm, an, cdv, ct, osl, ho, hcd⟩ := T.fn
  obtain ⟨nm, q, N, bs, sn, sub, ab, col, dd, k0, k1, k2, k3, k5, hC⟩ := T.ex.cls
  have hcl : clsIn K C = some { name := nm, bases := bs, mro := .ref C :: [.ref B, .type "Exception", .type "BaseException", .type "object"], ns := N, qualname := q, hasDict := true, slotNames := sn, subclasses := sub, abstract := ab, collection := col, hasDel := false } := by unfold clsIn; rw [hC] <;> rfl
  refine Att.call_fn (binds := [("self", .ref x), ("name", v1), ("why", v2)]) X hlim ho hcd hroom (BindsTo.of_eq (by first | rfl | with_unfolding_all rfl)) (by first | rfl | decide | with_unfolding_all rfl) (fun s1 IC => ?_) rfl rfl rfl
  obtain ⟨h1, tk1, rfl⟩ := IC.toInCall.same
  have k : ∀ b o, s.heap.get? b = some o → h1.get? b = some o := IC.toInCall.keep
  have hn := IC.toInCall.ns
  have hxL : s.heap.objs.size ≠ x := Nat.ne_of_gt (Heap.lt_size hx)
  have X1 : K.In h1 := X.keeps k
  have hx1 := k _ _ hx
  have big1 : s.heap.objs.size < h1.objs.size := hn.lt
  obtain ⟨p, hp⟩ := body_BadNet
  show wpAny _ _ (execs (L2.defBody LW.s_BadNet) _) _ _ _
  rw [hp]
  show wpAny _ _ (execs [.Assign [.Attribute (.Name "self" (p 0)) "name" (p 1)] (.Name "name" (p 2)) (p 3), .Assign [.Attribute (.Name "self" (p 4)) "why" (p 5)] (.Name "why" (p 6)) (p 7)] _) _ _ _
  refine wpAny_execs_cons (plainObj_wpAny_Assign_Attribute ?_)
  refine ld_local (v := v1) hn (by first | rfl | with_unfolding_all rfl | kernel_rfl) (ld_local (v := .ref x) hn (by first | rfl | with_unfolding_all rfl | kernel_rfl) ?_)
  refine set_plain X1 (ox := excO C t0) (od := none) ⟨hx1, rfl, rfl, trivial⟩ T.ex.sa ?_
  refine put_first X1 hx1 hcl (chain2 C B) rfl T.no1 (fun h3 tk3 dx k3 big3 ne3 hx3 hn3 => ?_)
  have X3 : K.In h3 := kept_in X1 hnx k3
  have hnL : h3.Ns s.heap.objs.size _ := hn.at fun o q => k3 _ o hxL q
  have ndL : s.heap.objs.size ≠ dx := Nat.ne_of_lt (Nat.lt_of_lt_of_le big1 big3)
  show wpAny _ _ (execs [_] _) _ _ _
  refine wpAny_execs_cons (plainObj_wpAny_Assign_Attribute ?_)
  refine ld_local (v := v2) hnL (by first | rfl | with_unfolding_all rfl | kernel_rfl) (ld_local (v := .ref x) hnL (by first | rfl | with_unfolding_all rfl | kernel_rfl) ?_)
  obtain ⟨oD, esD, epD, hoD, hdD, _⟩ := hn3.count (Within.cons "name" v1 Within.nil)
  refine set_plain X3 (od := some oD) ⟨hx3, rfl, rfl, hoD⟩ T.ex.sa ?_
  refine put_next (nl := ["name"]) X3 hx3 hn3 (Within.cons "name" v1 Within.nil) (by decide) hcl (chain2 C B) rfl T.no2 (fun h4 tk4 k4 hn4 => ?_)
  show wpAny _ _ (execs _ _) _ _ _
  exact wpAny_execs_nil (hq h4 tk4 dx ⟨fun b o hb e => k4 b o (fun z => by
    subst z
    exact absurd (Nat.lt_of_lt_of_le (Heap.lt_size (k b o e)) big3) (Nat.lt_irrefl _)) (k3 b o hb (k b o e)), k4 x _ (Ne.symm ne3) hx3, Nat.le_of_lt (Nat.lt_of_lt_of_le big1 big3), ne3, hn4⟩)
end ExF
end PySem
namespace LW
open PySem PySem.Spec PyProof.Rows L2 DL PySem.ExF
theorem rel_BadNet (vs : List V) (us : List Value) (r : Vals vs us) (hl : vs.length = 2) (f : Str) : RelO (((["name", "why"] : List Str).zip vs).lookup f) (fm_BadNet us f) := by
  match vs, us, r, hl with
  | [a, b], _, .cons r1 (.cons r2 .nil), _ =>
    unfold fm_BadNet
    by_cases h : f = "why"
    · subst h
      have q : (("why" : Str) == ("name" : Str)) = false := by decide
      simpa [List.lookup, q] using (show RelO (some b) (some _) from r2)
    · have q : (f == ("why" : Str)) = false := by simpa using h
      rw [if_neg h]
      by_cases h1 : f = "name"
      · subst h1
        simpa [List.lookup] using (show RelO (some a) (some _) from r1)
      · have q1 : (f == ("name" : Str)) = false := by simpa using h1
        rw [if_neg h1]
        simp only [List.zip_cons_cons, List.zip_nil_left, List.lookup, q, q1]
        trivial
theorem pmk_BadNet {X : Cx} {C B fI : Addr} {a1 a2 : Expr} {ta : TA} {p pos : Pos} {k : Nat} (T : Tx_BadNet X.K C B fI) (hmg : X.mg "BadNet" = some (.ref C)) (hr : Room k X.A) (ha : PA X [a1, a2] ta) (hg : Gl X "BadNet" := by rfl)
    (he : starEach [a1, a2] X.env = (false, eval a1 X.env) :: starEach [a2] X.env := by rfl) (hpl : (backTo pos (starEach [a2] X.env)).any (·.1) = false := by rfl) : PMk X (.Call (.Name "BadNet" p) [a1, a2] [] pos) (tMkEx C ["name", "why"] ta) :=
  pmk_ex T.ex (by decide) hmg hr ha fm_BadNet (fun {A R s us} hl X1 hlim hroom hq => by
    match us, hl with
    | [v1, v2], _ => exact made_of T.ex (by simp) X1 hlim hroom (fun X2 h2 h3 h4 h5 h6 => init_BadNet T X2 h2 h3 h4 h5 h6) hq) rel_BadNet hg (by decide) he hpl
theorem pmkN_BadNet {X : Cx} {C B fI : Addr} {a1 a2 : Expr} {ta : TA} {p pos : Pos} {k : Nat} (T : Tx_BadNet X.K C B fI) (hmg : X.mg "BadNet" = some (.ref C)) (hr : L2H.RoomH k X.A) (ha : PA X [a1, a2] ta) (hg : Gl X "BadNet" := by rfl)
    (he : starEach [a1, a2] X.env = (false, eval a1 X.env) :: starEach [a2] X.env := by rfl) (hpl : (backTo pos (starEach [a2] X.env)).any (·.1) = false := by rfl) : L2N.PMk X (.Call (.Name "BadNet" p) [a1, a2] [] pos) (tMkEx C ["name", "why"] ta) :=
  pmk_exN T.ex (by decide) hmg hr ha fm_BadNet (fun {A R s us} hl X1 hlim hroom hq => by
    match us, hl with
    | [v1, v2], _ => exact made_ofN T.ex (by simp) X1 hlim hroom (fun X2 h2 h3 h4 h5 h6 => init_BadNet T X2 h2 h3 h4 h5 h6) hq) rel_BadNet hg (by decide) he hpl
end LW
namespace LW
open PySem PySem.Spec PyProof.Rows L2 DL
abbrev s_common : Stmt := topS 4
theorem sc_common : FnScope ["a", "b"] ["a", "b"] (defScope s_common) := ⟨rfl, rfl, rfl, by decide +kernel, rfl, by decide +kernel, by decide +kernel⟩
abbrev s_is_frac : Stmt := topS 5
theorem sc_is_frac : FnScope ["thing", "one"] ["thing"] (defScope s_is_frac) := ⟨rfl, rfl, rfl, by decide +kernel, rfl, by decide +kernel, by decide +kernel⟩
abbrev s_sign_of : Stmt := topS 6
theorem sc_sign_of : FnScope ["number"] ["number"] (defScope s_sign_of) := ⟨rfl, rfl, rfl, by decide +kernel, rfl, by decide +kernel, by decide +kernel⟩
abbrev s_compare : Stmt := topS 7
theorem sc_compare : FnScope ["a", "b"] ["a", "b"] (defScope s_compare) := ⟨rfl, rfl, rfl, by decide +kernel, rfl, by decide +kernel, by decide +kernel⟩
abbrev s_is_name : Stmt := topS 19
theorem sc_is_name : FnScope ["thing", "sign"] ["thing"] (defScope s_is_name) := ⟨rfl, rfl, rfl, by decide +kernel, rfl, by decide +kernel, by decide +kernel⟩
abbrev s_is_whole : Stmt := topS 20
theorem sc_is_whole : FnScope ["thing", "least", "most"] ["thing", "least", "most"] (defScope s_is_whole) := ⟨rfl, rfl, rfl, by decide +kernel, rfl, by decide +kernel, by decide +kernel⟩
abbrev s_breakers_of : Stmt := topS 21
theorem sc_breakers_of : FnScope ["net", "found", "line", "end", "source"] ["net"] (defScope s_breakers_of) := ⟨rfl, rfl, rfl, by decide +kernel, rfl, by decide +kernel, by decide +kernel⟩
abbrev s_is_above : Stmt := topS 23
theorem sc_is_above : FnScope ["thing"] ["thing"] (defScope s_is_above) := ⟨rfl, rfl, rfl, by decide +kernel, rfl, by decide +kernel, by decide +kernel⟩
abbrev s_is_told : Stmt := topS 22
theorem sc_is_told : FnScope ["told", "breakers", "parts", "word"] ["told", "breakers", "parts"] (defScope s_is_told) := ⟨rfl, rfl, rfl, by decide +kernel, rfl, by decide +kernel, by decide +kernel⟩
abbrev s_is_rules : Stmt := topS 24
theorem sc_is_rules : FnScope ["rules", "error", "least", "most", "ticks"] ["rules"] (defScope s_is_rules) := ⟨rfl, rfl, rfl, by decide +kernel, rfl, by decide +kernel, by decide +kernel⟩
abbrev s_check : Stmt := topS 25
theorem sc_check : FnScope ["is_right", "name", "why"] ["is_right", "name", "why"] (defScope s_check) := ⟨rfl, rfl, rfl, by decide +kernel, rfl, by decide +kernel, by decide +kernel⟩
abbrev s_check_lists : Stmt := topS 26
theorem sc_check_lists : FnScope ["net", "buses", "lines", "sources", "guards", "rules", "names", "thing", "line", "source", "one", "bus"] ["net"] (defScope s_check_lists) := ⟨rfl, rfl, rfl, by decide +kernel, rfl, by decide +kernel, by decide +kernel⟩
abbrev s_check_net : Stmt := topS 27
theorem sc_check_net : FnScope ["net", "buses", "lines", "sources", "guards", "rules", "breakers", "parts", "guard", "opens", "line", "one", "other"] ["net"] (defScope s_check_net) := ⟨rfl, rfl, rfl, by decide +kernel, rfl, by decide +kernel, by decide +kernel⟩
abbrev s_is_net : Stmt := topS 28
theorem sc_is_net : FnScope ["thing"] ["thing"] (defScope s_is_net) := ⟨rfl, rfl, rfl, by decide +kernel, rfl, by decide +kernel, by decide +kernel⟩
abbrev s__law_cell_at : Stmt := topS 30
theorem sc__law_cell_at : FnScope ["_law_script", "_law_k"] ["_law_script", "_law_k"] (defScope s__law_cell_at) := ⟨rfl, rfl, rfl, by decide +kernel, rfl, by decide +kernel, by decide +kernel⟩
abbrev s__law_draw : Stmt := topS 31
theorem sc__law_draw : FnScope ["_law_cell", "_law_k", "_law_bound", "_law_primes"] ["_law_cell", "_law_k", "_law_bound"] (defScope s__law_draw) := ⟨rfl, rfl, rfl, by decide +kernel, rfl, by decide +kernel, by decide +kernel⟩
abbrev s__law_number : Stmt := topS 32
theorem sc__law_number : FnScope ["_law_cell", "_law_k", "_law_bound", "_law_power", "_law_lap", "_law_remains", "_law_small"] ["_law_cell", "_law_k", "_law_bound"] (defScope s__law_number) := ⟨rfl, rfl, rfl, by decide +kernel, rfl, by decide +kernel, by decide +kernel⟩
abbrev s__law_next : Stmt := topS 33
theorem sc__law_next : FnScope ["_law_draw_here", "_law_bound", "_law_at", "_law_cell"] ["_law_draw_here", "_law_bound"] (defScope s__law_next) := ⟨rfl, rfl, rfl, by decide +kernel, rfl, by decide +kernel, by decide +kernel⟩
abbrev s__law_pick : Stmt := topS 34
theorem sc__law_pick : FnScope ["_law_draw_here", "_law_things"] ["_law_draw_here", "_law_things"] (defScope s__law_pick) := ⟨rfl, rfl, rfl, by decide +kernel, rfl, by decide +kernel, by decide +kernel⟩
abbrev s__law_lines : Stmt := topS 35
theorem sc__law_lines : FnScope ["_law_draw_here", "_law_buses", "_law_found", "_law_many", "_law_number_here", "_law_one", "_law_other"] ["_law_draw_here", "_law_buses"] (defScope s__law_lines) := ⟨rfl, rfl, rfl, by decide +kernel, rfl, by decide +kernel, by decide +kernel⟩
abbrev s__law_here : Stmt := topS 36
theorem sc__law_here : FnScope ["_law_net_here", "_law_bus", "_law_found", "_law_name", "_law_first", "_law_second", "_law_x", "_law_end", "_law_at"] ["_law_net_here", "_law_bus"] (defScope s__law_here) := ⟨rfl, rfl, rfl, by decide +kernel, rfl, by decide +kernel, by decide +kernel⟩
abbrev s__law_looks : Stmt := topS 37
theorem sc__law_looks : FnScope ["_law_draw_here", "_law_net_here", "_law_breakers", "_law_kind", "_law_one", "_law_number_here", "_law_line"] ["_law_draw_here", "_law_net_here", "_law_breakers"] (defScope s__law_looks) := ⟨rfl, rfl, rfl, by decide +kernel, rfl, by decide +kernel, by decide +kernel⟩
abbrev s__law_good : Stmt := topS 38
theorem sc__law_good : FnScope ["_law_net_here", "_law_late", "_law_found", "_law_number_here", "_law_name", "_law_first", "_law_second", "_law_x", "_law_bus", "_law_turn", "_law_end", "_law_opens", "_law_at", "_law_one"] ["_law_net_here", "_law_late"] (defScope s__law_good) := ⟨rfl, rfl, rfl, by decide +kernel, rfl, by decide +kernel, by decide +kernel⟩
abbrev s__law_net : Stmt := topS 39
theorem sc__law_net : FnScope ["_law_draw_here", "_law_buses", "_law_lines_here", "_law_sources", "_law_least", "_law_most", "_law_net_here", "_law_breakers", "_law_error", "_law_guards", "_law_ticks", "_law_number_here", "_law_at", "_law_opens", "_law_looks_here", "_law_source", "_law_line", "_law_one"] ["_law_draw_here"] (defScope s__law_net) := ⟨rfl, rfl, rfl, by decide +kernel, rfl, by decide +kernel, by decide +kernel⟩
abbrev s__law_put : Stmt := topS 40
theorem sc__law_put : FnScope ["_law_net_here", "_law_at", "_law_thing"] ["_law_net_here", "_law_at", "_law_thing"] (defScope s__law_put) := ⟨rfl, rfl, rfl, by decide +kernel, rfl, by decide +kernel, by decide +kernel⟩
abbrev s__law_wrong : Stmt := topS 41
theorem sc__law_wrong : FnScope ["_law_draw_here", "_law_net_here", "_law_buses", "_law_lines_here", "_law_sources", "_law_guards", "_law_rules", "_law_guard", "_law_number_here", "_law_name", "_law_told", "_law_delay", "_law_opens", "_law_rest", "_law_late", "_law_looks_here", "_law_error", "_law_least", "_law_most", "_law_ticks", "_law_one", "_law_at"] ["_law_draw_here", "_law_net_here"] (defScope s__law_wrong) := ⟨rfl, rfl, rfl, by decide +kernel, rfl, by decide +kernel, by decide +kernel⟩
abbrev s_law : Stmt := topS 42
theorem sc_law : FnScope ["_law_script", "_law_draw_here", "_law_net_here", "_law_turn", "_law_lines_here", "_law_bad", "_law_one"] ["_law_script"] (defScope s_law) := ⟨rfl, rfl, rfl, by decide +kernel, rfl, by decide +kernel, by decide +kernel⟩
section
variable {P : Program} {w : World} {K : PySem.W.Frag} {mg : Str → Option Value} {base : Heap} {xc : Xc}
theorem ok__law_cell_at {f : Addr} {fd : FuncData} (D : Fun K "_law_cell_at" "_law_cell_at" s__law_cell_at f fd) (hpw : xc.pw = some (P, w)) (mm_len : mg "len" = none) : FnOk P w K mg base CX0 1 f fd ["_law_script", "_law_k"] (spX K xc g__law_cell_at) :=
  def_ok D sc__law_cell_at (by decide) fun cdv A outer s H E H0 as0 O0 hr => by
    have nd := sc__law_cell_at.nd
    exact (ds_cons (ds_if (dt_lt2 hr.units rfl (de_var 1) (de_len2 rfl mm_len (da_cons (de_var 0) da_nil))) (ds_one (ds_ret (de_ix3 hr rfl hpw (de_var 0) (de_var 1)))) ds_nil)
    (ds_one (ds_ret de_int)))
theorem ok__law_draw {f : Addr} {fd : FuncData} (D : Fun K "_law_draw" "_law_draw" s__law_draw f fd) (hpw : xc.pw = some (P, w)) (mm_int : mg "int" = none) : FnOk P w K mg base CX0 1 f fd ["_law_cell", "_law_k", "_law_bound"] (spX K xc g__law_draw) :=
  def_ok D sc__law_draw (by decide) fun cdv A outer s H E H0 as0 O0 hr => by
    have nd := sc__law_draw.nd
    exact (ds_cons (ds_set 3 nd (de_tup (da_cons de_int (da_cons de_int (da_cons de_int (da_cons de_int (da_cons de_int (da_cons de_int (da_cons de_int (da_cons de_int (da_cons de_int (da_cons de_int (da_cons de_int (da_cons de_int (da_cons de_int (da_cons de_int (da_cons de_int (da_cons de_int da_nil))))))))))))))))))
    (ds_one (ds_ret (de_mod (de_mod (de_intOf2 mm_int (da_cons (de_add rfl (de_mul2 rfl (de_var 0) de_int) (de_mul2 rfl (de_var 1) de_int)) da_nil)) (de_ix3 hr rfl hpw (de_var 3) (de_mod (de_intOf2 mm_int (da_cons (de_var 1) da_nil)) de_int))) (de_var 2)))))
theorem ok__law_number {f : Addr} {fd : FuncData} (D : Fun K "_law_number" "_law_number" s__law_number f fd) (hpw : xc.pw = some (P, w)) {f__law_draw : Addr} {fd__law_draw : FuncData} (G__law_draw : FnOk P w K mg base CX0 1 f__law_draw fd__law_draw ["_law_cell", "_law_k", "_law_bound"] (spX K xc g__law_draw)) (m__law_draw : mg "_law_draw" = some (.ref f__law_draw)) (k__law_draw : PySem.W.keepIn K (.ref f__law_draw) = true) (b__law_draw : Binds K fd__law_draw ["_law_cell", "_law_k", "_law_bound"] []) (mm_int : mg "int" = none) (mm_range : mg "range" = none) : FnOk P w K mg base CX0 2 f fd ["_law_cell", "_law_k", "_law_bound"] (spX K xc g__law_number) :=
  def_ok D sc__law_number (by decide) fun cdv A outer s H E H0 as0 O0 hr => by
    have nd := sc__law_number.nd
    exact (ds_cons (ds_set 3 nd de_int)
    (ds_cons (ds_for PassesOwn.never rfl (di_range1 mm_range (da_cons (de_mod (de_intOf2 mm_int (da_cons (de_var 1) da_nil)) de_int) da_nil)) (dg_name 4 nd) (ds_one (ds_set 3 nd (de_mul2 rfl (de_var 3) de_int))))
    (ds_cons (ds_set 5 nd (de_fdiv (de_sub (de_var 0) (de_pow de_int de_int)) (de_var 3)))
    (ds_cons (ds_if (dt_gt2 hr.units rfl (de_var 5) de_int) (ds_one (ds_ret (de_mod (de_mod (de_intOf2 mm_int (da_cons (de_var 5) da_nil)) de_int) (de_var 2)))) ds_nil)
    (ds_cons (ds_set 6 nd (de_mod (de_intOf2 mm_int (da_cons (de_var 0) da_nil)) de_int))
    (ds_one (ds_ret (de_mod (de_call G__law_draw (hr.mono (by decide)) m__law_draw k__law_draw b__law_draw pass0 (da_cons (de_mul2 rfl (de_add rfl (de_var 6) (de_mul2 rfl de_int (de_var 1))) (de_add rfl (de_add rfl (de_var 6) (de_mul2 rfl de_int (de_var 1))) de_int)) (da_cons (de_add rfl (de_mod (de_intOf2 mm_int (da_cons (de_var 1) da_nil)) de_int) de_int) (da_cons de_int da_nil)))) (de_var 2)))))))))
theorem ok__law_next {f : Addr} {fd : FuncData} (D : Fun K "_law_next" "_law_next" s__law_next f fd) (hpw : xc.pw = some (P, w)) {f__law_cell_at : Addr} {fd__law_cell_at : FuncData} (G__law_cell_at : FnOk P w K mg base CX0 1 f__law_cell_at fd__law_cell_at ["_law_script", "_law_k"] (spX K xc g__law_cell_at)) (m__law_cell_at : mg "_law_cell_at" = some (.ref f__law_cell_at)) (k__law_cell_at : PySem.W.keepIn K (.ref f__law_cell_at) = true) (b__law_cell_at : Binds K fd__law_cell_at ["_law_script", "_law_k"] []) {f__law_number : Addr} {fd__law_number : FuncData} (G__law_number : FnOk P w K mg base CX0 2 f__law_number fd__law_number ["_law_cell", "_law_k", "_law_bound"] (spX K xc g__law_number)) (m__law_number : mg "_law_number" = some (.ref f__law_number)) (k__law_number : PySem.W.keepIn K (.ref f__law_number) = true) (b__law_number : Binds K fd__law_number ["_law_cell", "_law_k", "_law_bound"] []) (mm_int : mg "int" = none) : FnOk P w K mg base CX0 3 f fd ["_law_draw_here", "_law_bound"] (spX K xc g__law_next) :=
  def_ok D sc__law_next (by decide) fun cdv A outer s H E H0 as0 O0 hr => by
    have nd := sc__law_next.nd
    exact (ds_cons (ds_item3 hr rfl hpw (de_add rfl (de_ix3 hr rfl hpw (de_var 0) de_int) de_int) (de_var 0) de_int)
    (ds_cons (ds_set 2 nd (de_fdiv (de_ix3 hr rfl hpw (de_var 0) de_int) de_int))
    (ds_cons (ds_set 3 nd (de_add rfl (de_call G__law_cell_at (hr.mono (by decide)) m__law_cell_at k__law_cell_at b__law_cell_at pass0 (da_cons (de_ix3 hr rfl hpw (de_var 0) de_int) (da_cons (de_add rfl (de_ix3 hr rfl hpw (de_var 0) de_int) (de_var 2)) da_nil))) (de_mul2 rfl de_int (de_var 2))))
    (ds_one (ds_ret (de_call G__law_number (hr.mono (by decide)) m__law_number k__law_number b__law_number pass0 (da_cons (de_var 3) (da_cons (de_add rfl (de_mod (de_intOf2 mm_int (da_cons (de_ix3 hr rfl hpw (de_var 0) de_int) da_nil)) de_int) de_int) (da_cons (de_var 1) da_nil)))))))))
theorem ok__law_pick {f : Addr} {fd : FuncData} (D : Fun K "_law_pick" "_law_pick" s__law_pick f fd) (hpw : xc.pw = some (P, w)) {f__law_next : Addr} {fd__law_next : FuncData} (G__law_next : FnOk P w K mg base CX0 3 f__law_next fd__law_next ["_law_draw_here", "_law_bound"] (spX K xc g__law_next)) (m__law_next : mg "_law_next" = some (.ref f__law_next)) (k__law_next : PySem.W.keepIn K (.ref f__law_next) = true) (b__law_next : Binds K fd__law_next ["_law_draw_here", "_law_bound"] []) (mm_len : mg "len" = none) : FnOk P w K mg base CX0 4 f fd ["_law_draw_here", "_law_things"] (spX K xc g__law_pick) :=
  def_ok D sc__law_pick (by decide) fun cdv A outer s H E H0 as0 O0 hr => by
    have nd := sc__law_pick.nd
    exact (ds_one (ds_ret (de_ix3 hr rfl hpw (de_var 1) (de_call G__law_next (hr.mono (by decide)) m__law_next k__law_next b__law_next pass0 (da_cons (de_var 0) (da_cons (de_len2 rfl mm_len (da_cons (de_var 1) da_nil)) da_nil))))))
theorem ok__law_lines {f : Addr} {fd : FuncData} (D : Fun K "_law_lines" "_law_lines" s__law_lines f fd) (hpw : xc.pw = some (P, w)) {f__law_next : Addr} {fd__law_next : FuncData} (G__law_next : FnOk P w K mg base CX0 3 f__law_next fd__law_next ["_law_draw_here", "_law_bound"] (spX K xc g__law_next)) (m__law_next : mg "_law_next" = some (.ref f__law_next)) (k__law_next : PySem.W.keepIn K (.ref f__law_next) = true) (b__law_next : Binds K fd__law_next ["_law_draw_here", "_law_bound"] []) {f__law_pick : Addr} {fd__law_pick : FuncData} (G__law_pick : FnOk P w K mg base CX0 4 f__law_pick fd__law_pick ["_law_draw_here", "_law_things"] (spX K xc g__law_pick)) (m__law_pick : mg "_law_pick" = some (.ref f__law_pick)) (k__law_pick : PySem.W.keepIn K (.ref f__law_pick) = true) (b__law_pick : Binds K fd__law_pick ["_law_draw_here", "_law_things"] []) (mm_len : mg "len" = none) (mm_range : mg "range" = none) (mm_str : mg "str" = none) (mm_tuple : mg "tuple" = none) : FnOk P w K mg base CX0 5 f fd ["_law_draw_here", "_law_buses"] (spX K xc g__law_lines) :=
  def_ok D sc__law_lines (by decide) fun cdv A outer s H E H0 as0 O0 hr => by
    have nd := sc__law_lines.nd
    exact (ds_cons (ds_parOwn 2 3 rfl nd da_nil (de_if (dt_gt2 hr.units rfl (de_len2 rfl mm_len (da_cons (de_var 1) da_nil)) de_int) (de_add rfl de_int (de_call G__law_next (hr.mono (by decide)) m__law_next k__law_next b__law_next pass0 (da_cons (de_var 0) (da_cons de_int da_nil)))) de_int))
    (ds_cons (ds_for PassesOwn.never rfl (di_range1 mm_range (da_cons (de_var 3) da_nil)) (dg_name 4 nd) (ds_cons (ds_set 5 nd (de_call G__law_next (hr.mono (by decide)) m__law_next k__law_next b__law_next pass0 (da_cons (de_var 0) (da_cons (de_len2 rfl mm_len (da_cons (de_var 1) da_nil)) da_nil))))
    (ds_cons (ds_set 6 nd (de_mod (de_add rfl (de_add rfl (de_var 5) de_int) (de_call G__law_next (hr.mono (by decide)) m__law_next k__law_next b__law_next pass0 (da_cons (de_var 0) (da_cons (de_sub (de_len2 rfl mm_len (da_cons (de_var 1) da_nil)) de_int) da_nil)))) (de_len2 rfl mm_len (da_cons (de_var 1) da_nil))))
    (ds_one (ds_append 2 (de_tup (da_cons (de_add rfl de_str (de_strOf mm_str (da_cons (de_var 4) da_nil))) (da_cons (de_ix3 hr rfl hpw (de_var 1) (de_var 5)) (da_cons (de_ix3 hr rfl hpw (de_var 1) (de_var 6)) (da_cons (de_call G__law_pick (hr.mono (by decide)) m__law_pick k__law_pick b__law_pick pass0 (da_cons (de_var 0) (da_cons (de_lst (da_cons de_int (da_cons de_int (da_cons de_int (da_cons de_int (da_cons de_int da_nil)))))) da_nil))) da_nil))))))))))
    (ds_one (ds_freeze 2 (ds_ret (de_tupOf2 rfl mm_tuple (da_cons (de_var 2) da_nil)))))))
theorem ok__law_here {f : Addr} {fd : FuncData} (D : Fun K "_law_here" "_law_here" s__law_here f fd) (hpw : xc.pw = some (P, w)) (mm_sorted : mg "sorted" = none) (mm_tuple : mg "tuple" = none) : FnOk P w K mg base CX0 1 f fd ["_law_net_here", "_law_bus"] (spX K xc g__law_here) :=
  def_ok D sc__law_here (by decide) fun cdv A outer s H E H0 as0 O0 hr => by
    have nd := sc__law_here.nd
    exact (ds_cons (ds_set 2 nd (de_lst da_nil))
    (ds_cons (ds_for PassesOwn.never rfl (di_seq rfl (de_ix3 hr rfl hpw (de_var 0) de_int)) (dg_tup rfl rfl (dgs_cons (dg_name 3 nd) (dgs_cons (dg_name 4 nd) (dgs_cons (dg_name 5 nd) (dgs_cons (dg_name 6 nd) dgs_nil))))) (ds_one (ds_set 2 nd (de_add rfl (de_var 2) (de_lc (own := [("_law_end", 7)]) rfl nd (blkOk_by (N := ["_law_net_here", "_law_bus", "_law_found", "_law_name", "_law_first", "_law_second", "_law_x", "_law_end", "_law_at"]) (sc := defScope s__law_here) (by decide +kernel)) (di_seq rfl (de_tup (da_cons de_int (da_cons de_int da_nil)))) (fun _ _ _ _ _ => (dg_name 7 nd)) (fun _ _ _ _ _ => (dts_one (dt_eq hr.units rfl (de_ix3 hr rfl hpw (de_tup (da_cons (de_var 4) (da_cons (de_var 5) da_nil))) (de_var 7)) (de_var 1)))) (fun _ _ _ _ _ => (de_tup (da_cons (de_var 3) (da_cons (de_var 7) da_nil)))))))))
    (ds_one (ds_ret (de_tupOf2 rfl mm_tuple (da_cons (de_sortD hr rfl mm_sorted (da_cons (de_add rfl (de_var 2) (de_lc (own := [("_law_name", 3), ("_law_at", 8), ("_law_x", 6)]) rfl nd (blkOk_by (N := ["_law_net_here", "_law_bus", "_law_found", "_law_name", "_law_first", "_law_second", "_law_x", "_law_end", "_law_at"]) (sc := defScope s__law_here) (by decide +kernel)) (di_seq rfl (de_ix3 hr rfl hpw (de_var 0) de_int)) (fun _ _ _ _ _ => (dg_tup rfl rfl (dgs_cons (dg_name 3 nd) (dgs_cons (dg_name 8 nd) (dgs_cons (dg_name 6 nd) dgs_nil))))) (fun _ _ _ _ _ => (dts_one (dt_eq hr.units rfl (de_var 8) (de_var 1)))) (fun _ _ _ _ _ => (de_tup (da_cons (de_var 3) (da_cons de_int da_nil)))))) da_nil)) da_nil))))))
theorem ok__law_good {f : Addr} {fd : FuncData} (D : Fun K "_law_good" "_law_good" s__law_good f fd) (hpw : xc.pw = some (P, w)) {f__law_here : Addr} {fd__law_here : FuncData} (G__law_here : FnOk P w K mg base CX0 1 f__law_here fd__law_here ["_law_net_here", "_law_bus"] (spX K xc g__law_here)) (m__law_here : mg "_law_here" = some (.ref f__law_here)) (k__law_here : PySem.W.keepIn K (.ref f__law_here) = true) (b__law_here : Binds K fd__law_here ["_law_net_here", "_law_bus"] []) (mm_enumerate : mg "enumerate" = none) (mm_list : mg "list" = none) (mm_range : mg "range" = none) (mm_sorted : mg "sorted" = none) (mm_str : mg "str" = none) (mm_tuple : mg "tuple" = none) : FnOk P w K mg base CX0 2 f fd ["_law_net_here", "_law_late"] (spX K xc g__law_good) :=
  def_ok D sc__law_good (by decide) fun cdv A outer s H E H0 as0 O0 hr => by
    have nd := sc__law_good.nd
    exact (ds_cons (ds_parOwn 2 3 rfl nd da_nil de_int)
    (ds_cons (ds_for PassesOwn.never rfl (di_seq rfl (de_ix3 hr rfl hpw (de_var 0) de_int)) (dg_tup rfl rfl (dgs_cons (dg_name 4 nd) (dgs_cons (dg_name 5 nd) (dgs_cons (dg_name 6 nd) (dgs_cons (dg_name 7 nd) dgs_nil))))) (ds_cons (ds_for PassesOwn.never rfl (di_range1 mm_range (da_cons de_int da_nil)) (dg_name 9 nd) (ds_cons (ds_append 2 (de_tup (da_cons (de_add rfl de_str (de_strOf mm_str (da_cons (de_var 3) da_nil))) (da_cons (de_tup (da_cons de_str (da_cons (de_var 4) (da_cons (de_tup (da_cons de_int (da_cons de_int da_nil))) da_nil)))) (da_cons de_int (da_cons (de_tup (da_cons (de_tup (da_cons (de_var 4) (da_cons de_int da_nil))) (da_cons (de_tup (da_cons (de_var 4) (da_cons de_int da_nil))) da_nil))) da_nil))))))
    (ds_one (ds_set 3 nd (de_add rfl (de_var 3) de_int)))))
    (ds_one (ds_for PassesOwn.never rfl (di_seq rfl (de_tup (da_cons de_int (da_cons de_int da_nil)))) (dg_name 10 nd) (ds_cons (ds_set 11 nd (de_sortD hr rfl mm_sorted (da_cons (de_add rfl (de_lstOf2 rfl mm_list (da_cons (de_call G__law_here (hr.mono (by decide)) m__law_here k__law_here b__law_here pass0 (da_cons (de_var 0) (da_cons (de_ix3 hr rfl hpw (de_tup (da_cons (de_var 5) (da_cons (de_var 6) da_nil))) (de_var 10)) da_nil))) da_nil)) (de_lst (da_cons (de_tup (da_cons (de_var 4) (da_cons (de_sub de_int (de_var 10)) da_nil))) da_nil))) da_nil)))
    (ds_cons (ds_set 11 nd (de_lc (own := [("_law_at", 12), ("_law_one", 13)]) rfl nd (blkOk_by (N := ["_law_net_here", "_law_late", "_law_found", "_law_number_here", "_law_name", "_law_first", "_law_second", "_law_x", "_law_bus", "_law_turn", "_law_end", "_law_opens", "_law_at", "_law_one"]) (sc := defScope s__law_good) (by decide +kernel)) (di_enum rfl mm_enumerate (da_cons (de_var 11) da_nil)) (fun _ _ _ _ _ => (dg_tup rfl rfl (dgs_cons (dg_name 12 nd) (dgs_cons (dg_name 13 nd) dgs_nil)))) (fun _ _ _ _ _ => (dts_one (dt_notIn3 hr rfl hpw (de_var 13) (de_slice rfl (de_var 11) do_none (do_some (de_var 12)))))) (fun _ _ _ _ _ => (de_var 13))))
    (ds_one (ds_append 2 (de_tup (da_cons (de_add rfl (de_add rfl de_str (de_strOf mm_str (da_cons (de_var 3) da_nil))) (de_strOf mm_str (da_cons (de_var 10) da_nil))) (da_cons (de_tup (da_cons de_str (da_cons (de_tup (da_cons (de_var 4) (da_cons (de_var 10) da_nil))) da_nil))) (da_cons (de_var 1) (da_cons (de_tupOf2 rfl mm_tuple (da_cons (de_var 11) da_nil)) da_nil)))))))))))))
    (ds_cons (ds_for PassesOwn.never rfl (di_seq rfl (de_ix3 hr rfl hpw (de_var 0) de_int)) (dg_name 8 nd) (ds_one (ds_for PassesOwn.never rfl (di_range1 mm_range (da_cons de_int da_nil)) (dg_name 9 nd) (ds_cons (ds_if (dt_ne hr.units rfl (de_call G__law_here (hr.mono (by decide)) m__law_here k__law_here b__law_here pass0 (da_cons (de_var 0) (da_cons (de_var 8) da_nil))) (de_tup da_nil)) (ds_one (ds_append 2 (de_tup (da_cons (de_add rfl de_str (de_strOf mm_str (da_cons (de_var 3) da_nil))) (da_cons (de_tup (da_cons de_str (da_cons (de_var 8) (da_cons (de_tup (da_cons de_int (da_cons de_int da_nil))) da_nil)))) (da_cons de_int (da_cons (de_call G__law_here (hr.mono (by decide)) m__law_here k__law_here b__law_here pass0 (da_cons (de_var 0) (da_cons (de_var 8) da_nil))) da_nil))))))) ds_nil)
    (ds_one (ds_set 3 nd (de_add rfl (de_var 3) de_int)))))))
    (ds_one (ds_freeze 2 (ds_ret (de_var 2)))))))
theorem ok__law_looks {f : Addr} {fd : FuncData} (D : Fun K "_law_looks" "_law_looks" s__law_looks f fd) (hpw : xc.pw = some (P, w)) {f__law_next : Addr} {fd__law_next : FuncData} (G__law_next : FnOk P w K mg base CX0 3 f__law_next fd__law_next ["_law_draw_here", "_law_bound"] (spX K xc g__law_next)) (m__law_next : mg "_law_next" = some (.ref f__law_next)) (k__law_next : PySem.W.keepIn K (.ref f__law_next) = true) (b__law_next : Binds K fd__law_next ["_law_draw_here", "_law_bound"] []) {f__law_pick : Addr} {fd__law_pick : FuncData} (G__law_pick : FnOk P w K mg base CX0 4 f__law_pick fd__law_pick ["_law_draw_here", "_law_things"] (spX K xc g__law_pick)) (m__law_pick : mg "_law_pick" = some (.ref f__law_pick)) (k__law_pick : PySem.W.keepIn K (.ref f__law_pick) = true) (b__law_pick : Binds K fd__law_pick ["_law_draw_here", "_law_things"] []) (mm_list : mg "list" = none) : FnOk P w K mg base CX0 5 f fd ["_law_draw_here", "_law_net_here", "_law_breakers"] (spX K xc g__law_looks) :=
  def_ok D sc__law_looks (by decide) fun cdv A outer s H E H0 as0 O0 hr => by
    have nd := sc__law_looks.nd
    exact (ds_cons (ds_par 3 4 rfl nd (da_cons (de_call G__law_next (hr.mono (by decide)) m__law_next k__law_next b__law_next pass0 (da_cons (de_var 0) (da_cons de_int da_nil))) (da_cons (de_call G__law_pick (hr.mono (by decide)) m__law_pick k__law_pick b__law_pick pass0 (da_cons (de_var 0) (da_cons (de_var 2) da_nil))) da_nil)))
    (ds_cons (ds_set 5 nd (de_call G__law_pick (hr.mono (by decide)) m__law_pick k__law_pick b__law_pick pass0 (da_cons (de_var 0) (da_cons (de_lst (da_cons (de_tup (da_cons de_int (da_cons de_int da_nil))) (da_cons (de_tup (da_cons de_int (da_cons de_int da_nil))) (da_cons (de_tup (da_cons de_int (da_cons de_int da_nil))) (da_cons (de_tup (da_cons de_int (da_cons de_int da_nil))) (da_cons (de_tup (da_cons de_int (da_cons de_int da_nil))) (da_cons (de_tup (da_cons de_int (da_cons de_int da_nil))) (da_cons (de_tup (da_cons de_int (da_cons de_int da_nil))) (da_cons (de_tup (da_cons de_int (da_cons de_int da_nil))) (da_cons (de_tup (da_cons de_int (da_cons de_int da_nil))) da_nil)))))))))) da_nil))))
    (ds_cons (ds_if (dt_lt2 hr.units rfl (de_var 3) de_int) (ds_one (ds_ret (de_tup (da_cons de_str (da_cons (de_var 4) (da_cons (de_var 5) (da_cons (de_eq hr.units rfl (de_call G__law_next (hr.mono (by decide)) m__law_next k__law_next b__law_next pass0 (da_cons (de_var 0) (da_cons de_int da_nil))) de_int) da_nil))))))) ds_nil)
    (ds_cons (ds_if (dt_eq hr.units rfl (de_var 3) de_int) (ds_one (ds_ret (de_tup (da_cons de_str (da_cons (de_var 4) (da_cons (de_call G__law_pick (hr.mono (by decide)) m__law_pick k__law_pick b__law_pick pass0 (da_cons (de_var 0) (da_cons (de_lst (da_cons (de_tup (da_cons de_int (da_cons de_int da_nil))) (da_cons (de_tup (da_cons de_int (da_cons de_int da_nil))) (da_cons (de_tup (da_cons de_int (da_cons de_int da_nil))) (da_cons (de_tup (da_cons de_int (da_cons de_int da_nil))) (da_cons (de_tup (da_cons de_int (da_cons de_int da_nil))) da_nil)))))) da_nil))) da_nil)))))) ds_nil)
    (ds_cons (ds_if (dt_eq hr.units rfl (de_var 3) de_int) (ds_one (ds_ret (de_tup (da_cons de_str (da_cons (de_var 4) da_nil))))) ds_nil)
    (ds_one (ds_ret (de_tup (da_cons de_str (da_cons (de_call G__law_pick (hr.mono (by decide)) m__law_pick k__law_pick b__law_pick pass0 (da_cons (de_var 0) (da_cons (de_add rfl (de_lstOf2 rfl mm_list (da_cons (de_ix3 hr rfl hpw (de_var 1) de_int) da_nil)) (de_lc (own := [("_law_line", 6)]) rfl nd (blkOk_by (N := ["_law_draw_here", "_law_net_here", "_law_breakers", "_law_kind", "_law_one", "_law_number_here", "_law_line"]) (sc := defScope s__law_looks) (by decide +kernel)) (di_seq rfl (de_ix3 hr rfl hpw (de_var 1) de_int)) (fun _ _ _ _ _ => (dg_name 6 nd)) (fun _ _ _ _ _ => dts_nil) (fun _ _ _ _ _ => (de_ix3 hr rfl hpw (de_var 6) de_int)))) da_nil))) (da_cons (de_call G__law_pick (hr.mono (by decide)) m__law_pick k__law_pick b__law_pick pass0 (da_cons (de_var 0) (da_cons (de_lst (da_cons (de_tup (da_cons de_int (da_cons de_int da_nil))) (da_cons (de_tup (da_cons de_int (da_cons de_int da_nil))) (da_cons (de_var 5) da_nil)))) da_nil))) da_nil)))))))))))
theorem ok__law_net {f : Addr} {fd : FuncData} (D : Fun K "_law_net" "_law_net" s__law_net f fd) (hpw : xc.pw = some (P, w)) {f__law_next : Addr} {fd__law_next : FuncData} (G__law_next : FnOk P w K mg base CX0 3 f__law_next fd__law_next ["_law_draw_here", "_law_bound"] (spX K xc g__law_next)) (m__law_next : mg "_law_next" = some (.ref f__law_next)) (k__law_next : PySem.W.keepIn K (.ref f__law_next) = true) (b__law_next : Binds K fd__law_next ["_law_draw_here", "_law_bound"] []) {f__law_lines : Addr} {fd__law_lines : FuncData} (G__law_lines : FnOk P w K mg base CX0 5 f__law_lines fd__law_lines ["_law_draw_here", "_law_buses"] (spX K xc g__law_lines)) (m__law_lines : mg "_law_lines" = some (.ref f__law_lines)) (k__law_lines : PySem.W.keepIn K (.ref f__law_lines) = true) (b__law_lines : Binds K fd__law_lines ["_law_draw_here", "_law_buses"] []) {f__law_pick : Addr} {fd__law_pick : FuncData} (G__law_pick : FnOk P w K mg base CX0 4 f__law_pick fd__law_pick ["_law_draw_here", "_law_things"] (spX K xc g__law_pick)) (m__law_pick : mg "_law_pick" = some (.ref f__law_pick)) (k__law_pick : PySem.W.keepIn K (.ref f__law_pick) = true) (b__law_pick : Binds K fd__law_pick ["_law_draw_here", "_law_things"] []) {f__law_good : Addr} {fd__law_good : FuncData} (G__law_good : FnOk P w K mg base CX0 2 f__law_good fd__law_good ["_law_net_here", "_law_late"] (spX K xc g__law_good)) (m__law_good : mg "_law_good" = some (.ref f__law_good)) (k__law_good : PySem.W.keepIn K (.ref f__law_good) = true) (b__law_good : Binds K fd__law_good ["_law_net_here", "_law_late"] []) {f__law_looks : Addr} {fd__law_looks : FuncData} (G__law_looks : FnOk P w K mg base CX0 5 f__law_looks fd__law_looks ["_law_draw_here", "_law_net_here", "_law_breakers"] (spX K xc g__law_looks)) (m__law_looks : mg "_law_looks" = some (.ref f__law_looks)) (k__law_looks : PySem.W.keepIn K (.ref f__law_looks) = true) (b__law_looks : Binds K fd__law_looks ["_law_draw_here", "_law_net_here", "_law_breakers"] []) (mm_len : mg "len" = none) (mm_range : mg "range" = none) (mm_sorted : mg "sorted" = none) (mm_str : mg "str" = none) (mm_tuple : mg "tuple" = none) : FnOk P w K mg base CX0 6 f fd ["_law_draw_here"] (spX K xc g__law_net) :=
  def_ok D sc__law_net (by decide) fun cdv A outer s H E H0 as0 O0 hr => by
    have nd := sc__law_net.nd
    exact (ds_cons (ds_set 1 nd (de_slice rfl (de_tup (da_cons de_str (da_cons de_str (da_cons de_str da_nil)))) do_none (do_some (de_add rfl de_int (de_call G__law_next (hr.mono (by decide)) m__law_next k__law_next b__law_next pass0 (da_cons (de_var 0) (da_cons de_int da_nil)))))))
    (ds_cons (ds_set 2 nd (de_call G__law_lines (hr.mono (by decide)) m__law_lines k__law_lines b__law_lines pass0 (da_cons (de_var 0) (da_cons (de_var 1) da_nil))))
    (ds_cons (ds_set 3 nd (de_tupOf2 rfl mm_tuple (da_cons (de_lc (own := [("_law_at", 12)]) rfl nd (blkOk_by (N := ["_law_draw_here", "_law_buses", "_law_lines_here", "_law_sources", "_law_least", "_law_most", "_law_net_here", "_law_breakers", "_law_error", "_law_guards", "_law_ticks", "_law_number_here", "_law_at", "_law_opens", "_law_looks_here", "_law_source", "_law_line", "_law_one"]) (sc := defScope s__law_net) (by decide +kernel)) (di_range1 mm_range (da_cons (de_add rfl de_int (de_call G__law_next (hr.mono (by decide)) m__law_next k__law_next b__law_next pass0 (da_cons (de_var 0) (da_cons de_int da_nil)))) da_nil)) (fun _ _ _ _ _ => (dg_name 12 nd)) (fun _ _ _ _ _ => dts_nil) (fun _ _ _ _ _ => (de_tup (da_cons (de_add rfl de_str (de_strOf mm_str (da_cons (de_var 12) da_nil))) (da_cons (de_call G__law_pick (hr.mono (by decide)) m__law_pick k__law_pick b__law_pick pass0 (da_cons (de_var 0) (da_cons (de_var 1) da_nil))) (da_cons (de_call G__law_pick (hr.mono (by decide)) m__law_pick k__law_pick b__law_pick pass0 (da_cons (de_var 0) (da_cons (de_lst (da_cons de_int (da_cons de_int (da_cons de_int da_nil)))) da_nil))) da_nil)))))) da_nil)))
    (ds_cons (ds_set 4 nd (de_add rfl de_int (de_call G__law_next (hr.mono (by decide)) m__law_next k__law_next b__law_next pass0 (da_cons (de_var 0) (da_cons de_int da_nil)))))
    (ds_cons (ds_set 5 nd (de_add rfl (de_var 4) (de_call G__law_next (hr.mono (by decide)) m__law_next k__law_next b__law_next pass0 (da_cons (de_var 0) (da_cons de_int da_nil)))))
    (ds_cons (ds_set 6 nd (de_tup (da_cons (de_var 1) (da_cons (de_var 2) (da_cons (de_var 3) da_nil)))))
    (ds_cons (ds_set 7 nd (de_add rfl (de_add rfl (de_lc (own := [("_law_line", 16)]) rfl nd (blkOk_by (N := ["_law_draw_here", "_law_buses", "_law_lines_here", "_law_sources", "_law_least", "_law_most", "_law_net_here", "_law_breakers", "_law_error", "_law_guards", "_law_ticks", "_law_number_here", "_law_at", "_law_opens", "_law_looks_here", "_law_source", "_law_line", "_law_one"]) (sc := defScope s__law_net) (by decide +kernel)) (di_seq rfl (de_var 2)) (fun _ _ _ _ _ => (dg_name 16 nd)) (fun _ _ _ _ _ => dts_nil) (fun _ _ _ _ _ => (de_tup (da_cons (de_ix3 hr rfl hpw (de_var 16) de_int) (da_cons de_int da_nil))))) (de_lc (own := [("_law_line", 16)]) rfl nd (blkOk_by (N := ["_law_draw_here", "_law_buses", "_law_lines_here", "_law_sources", "_law_least", "_law_most", "_law_net_here", "_law_breakers", "_law_error", "_law_guards", "_law_ticks", "_law_number_here", "_law_at", "_law_opens", "_law_looks_here", "_law_source", "_law_line", "_law_one"]) (sc := defScope s__law_net) (by decide +kernel)) (di_seq rfl (de_var 2)) (fun _ _ _ _ _ => (dg_name 16 nd)) (fun _ _ _ _ _ => dts_nil) (fun _ _ _ _ _ => (de_tup (da_cons (de_ix3 hr rfl hpw (de_var 16) de_int) (da_cons de_int da_nil)))))) (de_lc (own := [("_law_source", 15)]) rfl nd (blkOk_by (N := ["_law_draw_here", "_law_buses", "_law_lines_here", "_law_sources", "_law_least", "_law_most", "_law_net_here", "_law_breakers", "_law_error", "_law_guards", "_law_ticks", "_law_number_here", "_law_at", "_law_opens", "_law_looks_here", "_law_source", "_law_line", "_law_one"]) (sc := defScope s__law_net) (by decide +kernel)) (di_seq rfl (de_var 3)) (fun _ _ _ _ _ => (dg_name 15 nd)) (fun _ _ _ _ _ => dts_nil) (fun _ _ _ _ _ => (de_tup (da_cons (de_ix3 hr rfl hpw (de_var 15) de_int) (da_cons de_int da_nil)))))))
    (ds_cons (ds_if (dt_bool (dw_and (dt_eq hr.units rfl (de_call G__law_next (hr.mono (by decide)) m__law_next k__law_next b__law_next pass0 (da_cons (de_var 0) (da_cons de_int da_nil))) de_int) (dw_and1 (dt_lt2 hr.units rfl (de_len2 rfl mm_len (da_cons (de_var 2) da_nil)) de_int)))) (ds_cons (ds_set 9 nd (de_call G__law_good (hr.mono (by decide)) m__law_good k__law_good b__law_good pass0 (da_cons (de_var 6) (da_cons (de_if (dt_gt2 hr.units rfl (de_call G__law_next (hr.mono (by decide)) m__law_next k__law_next b__law_next pass0 (da_cons (de_var 0) (da_cons de_int da_nil))) de_int) (de_var 5) (de_sub (de_var 5) de_int)) da_nil))))
    (ds_cons (ds_if (dt_eq hr.units rfl (de_call G__law_next (hr.mono (by decide)) m__law_next k__law_next b__law_next pass0 (da_cons (de_var 0) (da_cons de_int da_nil))) de_int) (ds_cons (ds_set 12 nd (de_call G__law_next (hr.mono (by decide)) m__law_next k__law_next b__law_next pass0 (da_cons (de_var 0) (da_cons (de_lenOwn 9 rfl mm_len) da_nil))))
    (ds_one (ds_freeze 9 (ds_own 9 nd (dn_cat (de_slice rfl (de_var 9) do_none (do_some (de_var 12))) (de_slice rfl (de_var 9) (do_some (de_add rfl (de_var 12) de_int)) do_none)))))) ds_nil)
    (ds_one (ds_set 10 nd (de_add rfl (de_mul2 rfl de_int (de_var 5)) de_int))))) (ds_cons (ds_parOwn 9 10 rfl nd da_nil (de_add rfl de_int (de_call G__law_next (hr.mono (by decide)) m__law_next k__law_next b__law_next pass0 (da_cons (de_var 0) (da_cons de_int da_nil)))))
    (ds_one (ds_for PassesOwn.never rfl (di_range1 mm_range (da_cons (de_add rfl de_int (de_call G__law_next (hr.mono (by decide)) m__law_next k__law_next b__law_next pass0 (da_cons (de_var 0) (da_cons de_int da_nil)))) da_nil)) (dg_name 11 nd) (ds_cons (ds_setLc 13 (own := [("_law_one", 17)]) rfl nd (blkOk_by (N := ["_law_draw_here", "_law_buses", "_law_lines_here", "_law_sources", "_law_least", "_law_most", "_law_net_here", "_law_breakers", "_law_error", "_law_guards", "_law_ticks", "_law_number_here", "_law_at", "_law_opens", "_law_looks_here", "_law_source", "_law_line", "_law_one"]) (sc := defScope s__law_net) (by decide +kernel)) (sw_true rfl rfl rfl (by decide +kernel)) (di_seq rfl (de_var 7)) (fun _ _ _ _ _ => (dg_name 17 nd)) (fun _ _ _ _ _ => (dts_one (dt_eq hr.units rfl (de_call G__law_next (hr.mono (by decide)) m__law_next k__law_next b__law_next pass0 (da_cons (de_var 0) (da_cons de_int da_nil))) de_int))) (fun _ _ _ _ _ => (de_var 17)))
    (ds_cons (ds_set 14 nd (de_call G__law_looks (hr.mono (by decide)) m__law_looks k__law_looks b__law_looks pass0 (da_cons (de_var 0) (da_cons (de_var 6) (da_cons (de_var 7) da_nil)))))
    (ds_cons (ds_set 13 nd (de_if (dt_ne hr.units rfl (de_var 13) (de_lst da_nil)) (de_var 13) (de_lst (da_cons (de_call G__law_pick (hr.mono (by decide)) m__law_pick k__law_pick b__law_pick pass0 (da_cons (de_var 0) (da_cons (de_var 7) da_nil))) da_nil))))
    (ds_one (ds_append 9 (de_tup (da_cons (de_add rfl de_str (de_strOf mm_str (da_cons (de_var 11) da_nil))) (da_cons (de_var 14) (da_cons (de_call G__law_next (hr.mono (by decide)) m__law_next k__law_next b__law_next pass0 (da_cons (de_var 0) (da_cons de_int da_nil))) (da_cons (de_tupOf2 rfl mm_tuple (da_cons (de_sortD hr rfl mm_sorted (da_cons (de_var 13) da_nil)) da_nil)) da_nil))))))))))))))
    (ds_cons (ds_set 8 nd (de_call G__law_pick (hr.mono (by decide)) m__law_pick k__law_pick b__law_pick pass0 (da_cons (de_var 0) (da_cons (de_lst (da_cons (de_tup (da_cons de_int (da_cons de_int da_nil))) (da_cons (de_tup (da_cons de_int (da_cons de_int da_nil))) (da_cons (de_tup (da_cons de_int (da_cons de_int da_nil))) (da_cons (de_tup (da_cons de_int (da_cons de_int da_nil))) da_nil))))) da_nil))))
    (ds_one (ds_freeze 9 (ds_ret (de_add rfl (de_var 6) (de_tup (da_cons (de_tupOf2 rfl mm_tuple (da_cons (de_slice rfl (de_var 9) do_none (do_some de_int)) da_nil)) (da_cons (de_tup (da_cons (de_var 8) (da_cons (de_var 4) (da_cons (de_var 5) (da_cons (de_var 10) da_nil))))) da_nil))))))))))))))))
theorem ok_check {f : Addr} {fd : FuncData} (D : Fun K "check" "check" s_check f fd) (hpw : xc.pw = some (P, w)) {C_BadNet B_BadNet fI_BadNet : Addr} (T_BadNet : PySem.ExF.Tx_BadNet K C_BadNet B_BadNet fI_BadNet) (x_BadNet : xc.ex 2 = some (C_BadNet, (["name", "why"] : List Str))) (x_BadNet_g : mg "BadNet" = some (.ref C_BadNet)) : FnOk P w K mg base (L2.CX P w) 2 f fd ["is_right", "name", "why"] (spX K xc g_check) :=
  def_okX D sc_check (by decide) fun cdv A outer s H E H0 as0 O0 hr => by
    have nd := sc_check.nd
    exact (ds_one (ds_if (dt_not (dt_val (de_var 0))) (ds_one (ds_raise 2 rfl (takes_of rfl rfl rfl rfl) x_BadNet rfl (pmk_BadNet T_BadNet x_BadNet_g hr (da_cons (de_var 1) (da_cons (de_var 2) da_nil))))) ds_nil))
theorem ok_is_name {f : Addr} {fd : FuncData} (D : Fun K "is_name" "is_name" s_is_name f fd) (hpw : xc.pw = some (P, w)) (mm_all : mg "all" = none) (mm_isinstance : mg "isinstance" = none) (mm_len : mg "len" = none) (mm_str : mg "str" = none) (t_LETTERS : Top K mg "LETTERS" (.str "abcdefghijklmnopqrstuvwxyz0123456789")) (t_WORDS : Top K mg "WORDS" (.tuple [(.str "bus"), (.str "line"), (.str "source"), (.str "guard"), (.str "error"), (.str "breaker"), (.str "ticks"), (.str "over"), (.str "reach"), (.str "difference"), (.str "behind"), (.str "forward"), (.str "delay"), (.str "opens")])) : FnOk P w K mg base CX0 1 f fd ["thing"] (spX K xc g_is_name) :=
  def_ok D sc_is_name (by decide) fun cdv A outer s H E H0 as0 O0 hr => by
    have nd := sc_is_name.nd
    exact (ds_cons (ds_if (dt_bool (dw_or (dt_not (dt_val (de_isi "str" rfl mm_isinstance mm_str (by decide +kernel) (de_var 0)))) (dw_or (dt_not (dt_chain (cp_le) (cp_le) de_int (de_len2 rfl mm_len (da_cons (de_var 0) da_nil)) de_int)) (dw_or1 (dt_in3 hr rfl hpw (de_var 0) (de_top t_WORDS)))))) (ds_one (ds_ret de_bl)) ds_nil)
    (ds_one (ds_ret (de_and (de_in3 hr rfl hpw (de_ix3 hr rfl hpw (de_var 0) de_int) (de_slice rfl (de_top t_LETTERS) do_none (do_some de_int))) (de_one (de_all rfl rfl mm_all (da_cons (de_lc (own := [("sign", 1)]) rfl nd (blkOk_by (N := ["thing", "sign"]) (sc := defScope s_is_name) (by decide +kernel)) (di_seq rfl (de_var 0)) (fun _ _ _ _ _ => (dg_name 1 nd)) (fun _ _ _ _ _ => dts_nil) (fun _ _ _ _ _ => (de_in3 hr rfl hpw (de_var 1) (de_top t_LETTERS)))) da_nil)))))))
theorem ok_is_whole {f : Addr} {fd : FuncData} (D : Fun K "is_whole" "is_whole" s_is_whole f fd) (hpw : xc.pw = some (P, w)) (mm_bool : mg "bool" = none) (mm_int : mg "int" = none) (mm_isinstance : mg "isinstance" = none) : FnOk P w K mg base CX0 1 f fd ["thing", "least", "most"] (spX K xc g_is_whole) :=
  def_ok D sc_is_whole (by decide) fun cdv A outer s H E H0 as0 O0 hr => by
    have nd := sc_is_whole.nd
    exact (ds_one (ds_ret (de_and (de_isi "int" rfl mm_isinstance mm_int (by decide +kernel) (de_var 0)) (de_and (de_not (de_isi "bool" rfl mm_isinstance mm_bool (by decide +kernel) (de_var 0))) (de_one (de_chain (cp_le) (cp_le) (de_var 1) (de_var 0) (de_var 2)))))))
theorem ok_check_lists {f : Addr} {fd : FuncData} (D : Fun K "check_lists" "check_lists" s_check_lists f fd) (hpw : xc.pw = some (P, w)) {f_check : Addr} {fd_check : FuncData} (G_check : FnOk P w K mg base (L2.CX P w) 2 f_check fd_check ["is_right", "name", "why"] (spX K xc g_check)) (m_check : mg "check" = some (.ref f_check)) (k_check : PySem.W.keepIn K (.ref f_check) = true) (b_check : Binds K fd_check ["is_right", "name", "why"] []) {f_is_name : Addr} {fd_is_name : FuncData} (G_is_name : FnOk P w K mg base CX0 1 f_is_name fd_is_name ["thing"] (spX K xc g_is_name)) (m_is_name : mg "is_name" = some (.ref f_is_name)) (k_is_name : PySem.W.keepIn K (.ref f_is_name) = true) (b_is_name : Binds K fd_is_name ["thing"] []) {f_is_whole : Addr} {fd_is_whole : FuncData} (G_is_whole : FnOk P w K mg base CX0 1 f_is_whole fd_is_whole ["thing", "least", "most"] (spX K xc g_is_whole)) (m_is_whole : mg "is_whole" = some (.ref f_is_whole)) (k_is_whole : PySem.W.keepIn K (.ref f_is_whole) = true) (b_is_whole : Binds K fd_is_whole ["thing", "least", "most"] []) (mm_all : mg "all" = none) (mm_isinstance : mg "isinstance" = none) (mm_len : mg "len" = none) (mm_tuple : mg "tuple" = none) (t_MOST_BUSES : Top K mg "MOST_BUSES" (.int 6)) (t_MOST_GUARDS : Top K mg "MOST_GUARDS" (.int 16)) (t_MOST_LINES : Top K mg "MOST_LINES" (.int 8)) (t_MOST_SOURCES : Top K mg "MOST_SOURCES" (.int 3)) (t_MOST_X : Top K mg "MOST_X" (.int 1000)) : FnOk P w K mg base (L2.CX P w) 3 f fd ["net"] (spX K xc g_check_lists) :=
  def_okX D sc_check_lists (by decide) fun cdv A outer s H E H0 as0 O0 hr => by
    have nd := sc_check_lists.nd
    exact (ds_cons (ds_expr (de_callR G_check (hr.mono (by decide)) m_check k_check b_check (takes_of rfl rfl rfl rfl) (da_cons (de_and (de_isi "tuple" rfl mm_isinstance mm_tuple (by decide +kernel) (de_var 0)) (de_one (de_eq hr.units rfl (de_len2 rfl mm_len (da_cons (de_var 0) da_nil)) de_int))) (da_cons de_non (da_cons de_str da_nil)))))
    (ds_cons (ds_expr (de_callR G_check (hr.mono (by decide)) m_check k_check b_check (takes_of rfl rfl rfl rfl) (da_cons (de_all rfl rfl mm_all (da_cons (de_lc (own := [("one", 10)]) rfl nd (blkOk_by (N := ["net", "buses", "lines", "sources", "guards", "rules", "names", "thing", "line", "source", "one", "bus"]) (sc := defScope s_check_lists) (by decide +kernel)) (di_seq rfl (de_var 0)) (fun _ _ _ _ _ => (dg_name 10 nd)) (fun _ _ _ _ _ => dts_nil) (fun _ _ _ _ _ => (de_isi "tuple" rfl mm_isinstance mm_tuple (by decide +kernel) (de_var 10)))) da_nil)) (da_cons de_non (da_cons de_str da_nil)))))
    (ds_cons (ds_asg (de_var 0) (dg_tup rfl rfl (dgs_cons (dg_name 1 nd) (dgs_cons (dg_name 2 nd) (dgs_cons (dg_name 3 nd) (dgs_cons (dg_name 4 nd) (dgs_cons (dg_name 5 nd) dgs_nil)))))))
    (ds_cons (ds_expr (de_callR G_check (hr.mono (by decide)) m_check k_check b_check (takes_of rfl rfl rfl rfl) (da_cons (de_and (de_chain (cp_le) (cp_le) de_int (de_len2 rfl mm_len (da_cons (de_var 1) da_nil)) (de_top t_MOST_BUSES)) (de_one (de_le2 hr.units rfl (de_len2 rfl mm_len (da_cons (de_var 2) da_nil)) (de_top t_MOST_LINES)))) (da_cons de_non (da_cons de_str da_nil)))))
    (ds_cons (ds_expr (de_callR G_check (hr.mono (by decide)) m_check k_check b_check (takes_of rfl rfl rfl rfl) (da_cons (de_and (de_chain (cp_le) (cp_le) de_int (de_len2 rfl mm_len (da_cons (de_var 3) da_nil)) (de_top t_MOST_SOURCES)) (de_one (de_le2 hr.units rfl (de_len2 rfl mm_len (da_cons (de_var 4) da_nil)) (de_top t_MOST_GUARDS)))) (da_cons de_non (da_cons de_str da_nil)))))
    (ds_cons (ds_dict 6 nd)
    (ds_cons (ds_for (passes_of rfl) rfl (di_seq rfl (de_lst (da_star rfl (de_lc (own := [("bus", 11)]) rfl nd (blkOk_by (N := ["net", "buses", "lines", "sources", "guards", "rules", "names", "thing", "line", "source", "one", "bus"]) (sc := defScope s_check_lists) (by decide +kernel)) (di_seq rfl (de_var 1)) (fun _ _ _ _ _ => (dg_name 11 nd)) (fun _ _ _ _ _ => dts_nil) (fun _ _ _ _ _ => (de_tup (da_cons (de_var 11) da_nil)))) (da_star rfl (de_var 2) (da_star rfl (de_var 3) (da_star rfl (de_var 4) da_nil)))))) (dg_name 7 nd) (ds_cons (ds_expr (de_callR G_check (hr.mono (by decide)) m_check k_check b_check (takes_of rfl rfl rfl rfl) (da_cons (de_and (de_isi "tuple" rfl mm_isinstance mm_tuple (by decide +kernel) (de_var 7)) (de_and (de_gt2 hr.units rfl (de_len2 rfl mm_len (da_cons (de_var 7) da_nil)) de_int) (de_one (de_call G_is_name (hr.mono (by decide)) m_is_name k_is_name b_is_name pass0 (da_cons (de_ix3 hr rfl hpw (de_var 7) de_int) da_nil))))) (da_cons de_non (da_cons de_str da_nil)))))
    (ds_cons (ds_expr (de_callR G_check (hr.mono (by decide)) m_check k_check b_check (takes_of rfl rfl rfl rfl) (da_cons (de_hasNot 6 (room1 hr) (de_ix3 hr rfl hpw (de_var 7) de_int)) (da_cons (de_ix3 hr rfl hpw (de_var 7) de_int) (da_cons de_str da_nil)))))
    (ds_one (ds_putOwn 6 (room1 hr) de_bl (de_ix3 hr rfl hpw (de_var 7) de_int))))))
    (ds_cons (ds_for (passes_of rfl) rfl (di_seq rfl (de_var 2)) (dg_name 8 nd) (ds_cons (ds_expr (de_callR G_check (hr.mono (by decide)) m_check k_check b_check (takes_of rfl rfl rfl rfl) (da_cons (de_and (de_eq hr.units rfl (de_len2 rfl mm_len (da_cons (de_var 8) da_nil)) de_int) (de_and (de_in3 hr rfl hpw (de_ix3 hr rfl hpw (de_var 8) de_int) (de_var 1)) (de_and (de_in3 hr rfl hpw (de_ix3 hr rfl hpw (de_var 8) de_int) (de_var 1)) (de_one (de_ne hr.units rfl (de_ix3 hr rfl hpw (de_var 8) de_int) (de_ix3 hr rfl hpw (de_var 8) de_int)))))) (da_cons (de_ix3 hr rfl hpw (de_var 8) de_int) (da_cons de_str da_nil)))))
    (ds_one (ds_expr (de_callR G_check (hr.mono (by decide)) m_check k_check b_check (takes_of rfl rfl rfl rfl) (da_cons (de_call G_is_whole (hr.mono (by decide)) m_is_whole k_is_whole b_is_whole pass0 (da_cons (de_ix3 hr rfl hpw (de_var 8) de_int) (da_cons de_int (da_cons (de_top t_MOST_X) da_nil)))) (da_cons (de_ix3 hr rfl hpw (de_var 8) de_int) (da_cons de_str da_nil))))))))
    (ds_one (ds_for (passes_of rfl) rfl (di_seq rfl (de_var 3)) (dg_name 9 nd) (ds_cons (ds_expr (de_callR G_check (hr.mono (by decide)) m_check k_check b_check (takes_of rfl rfl rfl rfl) (da_cons (de_and (de_eq hr.units rfl (de_len2 rfl mm_len (da_cons (de_var 9) da_nil)) de_int) (de_one (de_in3 hr rfl hpw (de_ix3 hr rfl hpw (de_var 9) de_int) (de_var 1)))) (da_cons (de_ix3 hr rfl hpw (de_var 9) de_int) (da_cons de_str da_nil)))))
    (ds_one (ds_expr (de_callR G_check (hr.mono (by decide)) m_check k_check b_check (takes_of rfl rfl rfl rfl) (da_cons (de_call G_is_whole (hr.mono (by decide)) m_is_whole k_is_whole b_is_whole pass0 (da_cons (de_ix3 hr rfl hpw (de_var 9) de_int) (da_cons de_int (da_cons (de_top t_MOST_X) da_nil)))) (da_cons (de_ix3 hr rfl hpw (de_var 9) de_int) (da_cons de_str da_nil)))))))))))))))))
theorem ok_breakers_of {f : Addr} {fd : FuncData} (D : Fun K "breakers_of" "breakers_of" s_breakers_of f fd) (hpw : xc.pw = some (P, w)) : FnOk P w K mg base CX0 1 f fd ["net"] (spX K xc g_breakers_of) :=
  def_ok D sc_breakers_of (by decide) fun cdv A outer s H E H0 as0 O0 hr => by
    have nd := sc_breakers_of.nd
    exact (ds_cons (ds_setLc2 1 (own := [("line", 2), ("end", 3)]) (vs1 := [3]) rfl nd (blkOk_by (N := ["net", "found", "line", "end", "source"]) (sc := defScope s_breakers_of) (by decide +kernel)) (sw_true rfl rfl rfl (by decide +kernel)) (di_seq rfl (de_ix3 hr rfl hpw (de_var 0) de_int)) (fun _ _ _ _ _ => (dg_name 2 nd)) (fun _ _ _ _ _ => dts_nil) (fun _ _ _ _ _ => (di_seq rfl (de_tup (da_cons de_int (da_cons de_int da_nil))))) (fun _ _ _ _ _ => (dg_name 3 nd)) (fun _ _ _ _ _ => dts_nil) (fun _ _ _ _ _ => (de_tup (da_cons (de_ix3 hr rfl hpw (de_var 2) de_int) (da_cons (de_var 3) da_nil)))))
    (ds_one (ds_ret (de_add rfl (de_var 1) (de_lc (own := [("source", 4)]) rfl nd (blkOk_by (N := ["net", "found", "line", "end", "source"]) (sc := defScope s_breakers_of) (by decide +kernel)) (di_seq rfl (de_ix3 hr rfl hpw (de_var 0) de_int)) (fun _ _ _ _ _ => (dg_name 4 nd)) (fun _ _ _ _ _ => dts_nil) (fun _ _ _ _ _ => (de_tup (da_cons (de_ix3 hr rfl hpw (de_var 4) de_int) (da_cons de_int da_nil)))))))))
theorem ok_common {f : Addr} {fd : FuncData} (D : Fun K "common" "common" s_common f fd) (hpw : xc.pw = some (P, w)) (mm_abs : mg "abs" = none) : FnOk P w K mg base CX0 1 f fd ["a", "b"] (spX K xc g_common) :=
  def_ok D sc_common (by decide) fun cdv A outer s H E H0 as0 O0 hr => by
    have nd := sc_common.nd
    exact (ds_cons (ds_par 0 1 rfl nd (da_cons (de_abs mm_abs (da_cons (de_var 0) da_nil)) (da_cons (de_abs mm_abs (da_cons (de_var 1) da_nil)) da_nil)))
    (ds_cons (ds_while PassesOwn.never (dt_gt2 hr.units rfl (de_var 1) de_int) (ds_one (ds_par 0 1 rfl nd (da_cons (de_var 1) (da_cons (de_mod (de_var 0) (de_var 1)) da_nil)))))
    (ds_one (ds_ret (de_var 0)))))
theorem ok_is_frac {f : Addr} {fd : FuncData} (D : Fun K "is_frac" "is_frac" s_is_frac f fd) (hpw : xc.pw = some (P, w)) {f_common : Addr} {fd_common : FuncData} (G_common : FnOk P w K mg base CX0 1 f_common fd_common ["a", "b"] (spX K xc g_common)) (m_common : mg "common" = some (.ref f_common)) (k_common : PySem.W.keepIn K (.ref f_common) = true) (b_common : Binds K fd_common ["a", "b"] []) (mm_all : mg "all" = none) (mm_bool : mg "bool" = none) (mm_int : mg "int" = none) (mm_isinstance : mg "isinstance" = none) (mm_len : mg "len" = none) (mm_tuple : mg "tuple" = none) : FnOk P w K mg base CX0 2 f fd ["thing"] (spX K xc g_is_frac) :=
  def_ok D sc_is_frac (by decide) fun cdv A outer s H E H0 as0 O0 hr => by
    have nd := sc_is_frac.nd
    exact (ds_cons (ds_if (dt_bool (dw_or (dt_not (dt_val (de_isi "tuple" rfl mm_isinstance mm_tuple (by decide +kernel) (de_var 0)))) (dw_or1 (dt_ne hr.units rfl (de_len2 rfl mm_len (da_cons (de_var 0) da_nil)) de_int)))) (ds_one (ds_ret de_bl)) ds_nil)
    (ds_cons (ds_if (dt_not (dt_val (de_all rfl rfl mm_all (da_cons (de_lc (own := [("one", 1)]) rfl nd (blkOk_by (N := ["thing", "one"]) (sc := defScope s_is_frac) (by decide +kernel)) (di_seq rfl (de_var 0)) (fun _ _ _ _ _ => (dg_name 1 nd)) (fun _ _ _ _ _ => dts_nil) (fun _ _ _ _ _ => (de_and (de_isi "int" rfl mm_isinstance mm_int (by decide +kernel) (de_var 1)) (de_one (de_not (de_isi "bool" rfl mm_isinstance mm_bool (by decide +kernel) (de_var 1))))))) da_nil)))) (ds_one (ds_ret de_bl)) ds_nil)
    (ds_one (ds_ret (de_and (de_gt2 hr.units rfl (de_ix3 hr rfl hpw (de_var 0) de_int) de_int) (de_one (de_eq hr.units rfl (de_call G_common (hr.mono (by decide)) m_common k_common b_common pass0 (da_cons (de_ix3 hr rfl hpw (de_var 0) de_int) (da_cons (de_ix3 hr rfl hpw (de_var 0) de_int) da_nil))) de_int)))))))
theorem ok_is_above {f : Addr} {fd : FuncData} (D : Fun K "is_above" "is_above" s_is_above f fd) (hpw : xc.pw = some (P, w)) {f_is_frac : Addr} {fd_is_frac : FuncData} (G_is_frac : FnOk P w K mg base CX0 2 f_is_frac fd_is_frac ["thing"] (spX K xc g_is_frac)) (m_is_frac : mg "is_frac" = some (.ref f_is_frac)) (k_is_frac : PySem.W.keepIn K (.ref f_is_frac) = true) (b_is_frac : Binds K fd_is_frac ["thing"] []) (t_MOST_X : Top K mg "MOST_X" (.int 1000)) : FnOk P w K mg base CX0 3 f fd ["thing"] (spX K xc g_is_above) :=
  def_ok D sc_is_above (by decide) fun cdv A outer s H E H0 as0 O0 hr => by
    have nd := sc_is_above.nd
    exact (ds_one (ds_ret (de_and (de_call G_is_frac (hr.mono (by decide)) m_is_frac k_is_frac b_is_frac pass0 (da_cons (de_var 0) da_nil)) (de_and (de_gt2 hr.units rfl (de_ix3 hr rfl hpw (de_var 0) de_int) de_int) (de_and (de_le2 hr.units rfl (de_ix3 hr rfl hpw (de_var 0) de_int) (de_top t_MOST_X)) (de_one (de_le2 hr.units rfl (de_ix3 hr rfl hpw (de_var 0) de_int) (de_top t_MOST_X))))))))
theorem ok_is_told {f : Addr} {fd : FuncData} (D : Fun K "is_told" "is_told" s_is_told f fd) (hpw : xc.pw = some (P, w)) {f_is_above : Addr} {fd_is_above : FuncData} (G_is_above : FnOk P w K mg base CX0 3 f_is_above fd_is_above ["thing"] (spX K xc g_is_above)) (m_is_above : mg "is_above" = some (.ref f_is_above)) (k_is_above : PySem.W.keepIn K (.ref f_is_above) = true) (b_is_above : Binds K fd_is_above ["thing"] []) (mm_bool : mg "bool" = none) (mm_isinstance : mg "isinstance" = none) (mm_len : mg "len" = none) (mm_str : mg "str" = none) (mm_tuple : mg "tuple" = none) : FnOk P w K mg base CX0 4 f fd ["told", "breakers", "parts"] (spX K xc g_is_told) :=
  def_ok D sc_is_told (by decide) fun cdv A outer s H E H0 as0 O0 hr => by
    have nd := sc_is_told.nd
    exact (ds_cons (ds_if (dt_bool (dw_or (dt_not (dt_val (de_isi "tuple" rfl mm_isinstance mm_tuple (by decide +kernel) (de_var 0)))) (dw_or (dt_eq hr.units rfl (de_len2 rfl mm_len (da_cons (de_var 0) da_nil)) de_int) (dw_or1 (dt_not (dt_val (de_isi "str" rfl mm_isinstance mm_str (by decide +kernel) (de_ix3 hr rfl hpw (de_var 0) de_int)))))))) (ds_one (ds_ret de_bl)) ds_nil)
    (ds_cons (ds_set 3 nd (de_ix3 hr rfl hpw (de_var 0) de_int))
    (ds_cons (ds_if (dt_eq hr.units rfl (de_var 3) de_str) (ds_one (ds_ret (de_and (de_eq hr.units rfl (de_len2 rfl mm_len (da_cons (de_var 0) da_nil)) de_int) (de_and (de_in3 hr rfl hpw (de_ix3 hr rfl hpw (de_var 0) de_int) (de_var 1)) (de_and (de_call G_is_above (hr.mono (by decide)) m_is_above k_is_above b_is_above pass0 (da_cons (de_ix3 hr rfl hpw (de_var 0) de_int) da_nil)) (de_one (de_isi "bool" rfl mm_isinstance mm_bool (by decide +kernel) (de_ix3 hr rfl hpw (de_var 0) de_int)))))))) ds_nil)
    (ds_cons (ds_if (dt_eq hr.units rfl (de_var 3) de_str) (ds_one (ds_ret (de_and (de_eq hr.units rfl (de_len2 rfl mm_len (da_cons (de_var 0) da_nil)) de_int) (de_and (de_in3 hr rfl hpw (de_ix3 hr rfl hpw (de_var 0) de_int) (de_var 1)) (de_one (de_call G_is_above (hr.mono (by decide)) m_is_above k_is_above b_is_above pass0 (da_cons (de_ix3 hr rfl hpw (de_var 0) de_int) da_nil))))))) ds_nil)
    (ds_cons (ds_if (dt_eq hr.units rfl (de_var 3) de_str) (ds_one (ds_ret (de_and (de_eq hr.units rfl (de_len2 rfl mm_len (da_cons (de_var 0) da_nil)) de_int) (de_and (de_in3 hr rfl hpw (de_ix3 hr rfl hpw (de_var 0) de_int) (de_var 2)) (de_one (de_call G_is_above (hr.mono (by decide)) m_is_above k_is_above b_is_above pass0 (da_cons (de_ix3 hr rfl hpw (de_var 0) de_int) da_nil))))))) ds_nil)
    (ds_one (ds_ret (de_and (de_eq hr.units rfl (de_var 3) de_str) (de_and (de_eq hr.units rfl (de_len2 rfl mm_len (da_cons (de_var 0) da_nil)) de_int) (de_one (de_in3 hr rfl hpw (de_ix3 hr rfl hpw (de_var 0) de_int) (de_var 1))))))))))))
theorem ok_sign_of {f : Addr} {fd : FuncData} (D : Fun K "sign_of" "sign_of" s_sign_of f fd) (hpw : xc.pw = some (P, w)) : FnOk P w K mg base CX0 1 f fd ["number"] (spX K xc g_sign_of) :=
  def_ok D sc_sign_of (by decide) fun cdv A outer s H E H0 as0 O0 hr => by
    have nd := sc_sign_of.nd
    exact (ds_one (ds_ret (de_if (dt_gt2 hr.units rfl (de_var 0) de_int) de_int (de_if (dt_eq hr.units rfl (de_var 0) de_int) de_int (de_neg de_int)))))
theorem ok_compare {f : Addr} {fd : FuncData} (D : Fun K "compare" "compare" s_compare f fd) (hpw : xc.pw = some (P, w)) {f_sign_of : Addr} {fd_sign_of : FuncData} (G_sign_of : FnOk P w K mg base CX0 1 f_sign_of fd_sign_of ["number"] (spX K xc g_sign_of)) (m_sign_of : mg "sign_of" = some (.ref f_sign_of)) (k_sign_of : PySem.W.keepIn K (.ref f_sign_of) = true) (b_sign_of : Binds K fd_sign_of ["number"] []) : FnOk P w K mg base CX0 2 f fd ["a", "b"] (spX K xc g_compare) :=
  def_ok D sc_compare (by decide) fun cdv A outer s H E H0 as0 O0 hr => by
    have nd := sc_compare.nd
    exact (ds_one (ds_ret (de_call G_sign_of (hr.mono (by decide)) m_sign_of k_sign_of b_sign_of pass0 (da_cons (de_sub (de_mul2 rfl (de_ix3 hr rfl hpw (de_var 0) de_int) (de_ix3 hr rfl hpw (de_var 1) de_int)) (de_mul2 rfl (de_ix3 hr rfl hpw (de_var 1) de_int) (de_ix3 hr rfl hpw (de_var 0) de_int))) da_nil))))
theorem ok_is_rules {f : Addr} {fd : FuncData} (D : Fun K "is_rules" "is_rules" s_is_rules f fd) (hpw : xc.pw = some (P, w)) {f_is_frac : Addr} {fd_is_frac : FuncData} (G_is_frac : FnOk P w K mg base CX0 2 f_is_frac fd_is_frac ["thing"] (spX K xc g_is_frac)) (m_is_frac : mg "is_frac" = some (.ref f_is_frac)) (k_is_frac : PySem.W.keepIn K (.ref f_is_frac) = true) (b_is_frac : Binds K fd_is_frac ["thing"] []) {f_compare : Addr} {fd_compare : FuncData} (G_compare : FnOk P w K mg base CX0 2 f_compare fd_compare ["a", "b"] (spX K xc g_compare)) (m_compare : mg "compare" = some (.ref f_compare)) (k_compare : PySem.W.keepIn K (.ref f_compare) = true) (b_compare : Binds K fd_compare ["a", "b"] []) {f_is_whole : Addr} {fd_is_whole : FuncData} (G_is_whole : FnOk P w K mg base CX0 1 f_is_whole fd_is_whole ["thing", "least", "most"] (spX K xc g_is_whole)) (m_is_whole : mg "is_whole" = some (.ref f_is_whole)) (k_is_whole : PySem.W.keepIn K (.ref f_is_whole) = true) (b_is_whole : Binds K fd_is_whole ["thing", "least", "most"] []) (mm_isinstance : mg "isinstance" = none) (mm_len : mg "len" = none) (mm_tuple : mg "tuple" = none) (t_MOST_AGE : Top K mg "MOST_AGE" (.int 6)) (t_MOST_TICKS : Top K mg "MOST_TICKS" (.int 40)) (t_MOST_X : Top K mg "MOST_X" (.int 1000)) : FnOk P w K mg base CX0 3 f fd ["rules"] (spX K xc g_is_rules) :=
  def_ok D sc_is_rules (by decide) fun cdv A outer s H E H0 as0 O0 hr => by
    have nd := sc_is_rules.nd
    exact (ds_cons (ds_if (dt_bool (dw_or (dt_not (dt_val (de_isi "tuple" rfl mm_isinstance mm_tuple (by decide +kernel) (de_var 0)))) (dw_or (dt_ne hr.units rfl (de_len2 rfl mm_len (da_cons (de_var 0) da_nil)) de_int) (dw_or1 (dt_not (dt_val (de_call G_is_frac (hr.mono (by decide)) m_is_frac k_is_frac b_is_frac pass0 (da_cons (de_ix3 hr rfl hpw (de_var 0) de_int) da_nil)))))))) (ds_one (ds_ret de_bl)) ds_nil)
    (ds_cons (ds_asg (de_var 0) (dg_tup rfl rfl (dgs_cons (dg_name 1 nd) (dgs_cons (dg_name 2 nd) (dgs_cons (dg_name 3 nd) (dgs_cons (dg_name 4 nd) dgs_nil))))))
    (ds_cons (ds_if (dt_bool (dw_or (dt_gt2 hr.units rfl (de_call G_compare (hr.mono (by decide)) m_compare k_compare b_compare pass0 (da_cons (de_tup (da_cons de_int (da_cons de_int da_nil))) (da_cons (de_var 1) da_nil))) de_int) (dw_or (dt_ge2 hr.units rfl (de_call G_compare (hr.mono (by decide)) m_compare k_compare b_compare pass0 (da_cons (de_var 1) (da_cons (de_tup (da_cons de_int (da_cons de_int da_nil))) da_nil))) de_int) (dw_or1 (dt_gt2 hr.units rfl (de_ix3 hr rfl hpw (de_var 1) de_int) (de_top t_MOST_X)))))) (ds_one (ds_ret de_bl)) ds_nil)
    (ds_one (ds_ret (de_and (de_call G_is_whole (hr.mono (by decide)) m_is_whole k_is_whole b_is_whole pass0 (da_cons (de_var 3) (da_cons de_int (da_cons (de_top t_MOST_AGE) da_nil)))) (de_and (de_call G_is_whole (hr.mono (by decide)) m_is_whole k_is_whole b_is_whole pass0 (da_cons (de_var 2) (da_cons de_int (da_cons (de_var 3) da_nil)))) (de_one (de_call G_is_whole (hr.mono (by decide)) m_is_whole k_is_whole b_is_whole pass0 (da_cons (de_var 4) (da_cons de_int (da_cons (de_top t_MOST_TICKS) da_nil))))))))))))
theorem ok_check_net {f : Addr} {fd : FuncData} (D : Fun K "check_net" "check_net" s_check_net f fd) (hpw : xc.pw = some (P, w)) {f_check_lists : Addr} {fd_check_lists : FuncData} (G_check_lists : FnOk P w K mg base (L2.CX P w) 3 f_check_lists fd_check_lists ["net"] (spX K xc g_check_lists)) (m_check_lists : mg "check_lists" = some (.ref f_check_lists)) (k_check_lists : PySem.W.keepIn K (.ref f_check_lists) = true) (b_check_lists : Binds K fd_check_lists ["net"] []) {f_breakers_of : Addr} {fd_breakers_of : FuncData} (G_breakers_of : FnOk P w K mg base CX0 1 f_breakers_of fd_breakers_of ["net"] (spX K xc g_breakers_of)) (m_breakers_of : mg "breakers_of" = some (.ref f_breakers_of)) (k_breakers_of : PySem.W.keepIn K (.ref f_breakers_of) = true) (b_breakers_of : Binds K fd_breakers_of ["net"] []) {f_is_told : Addr} {fd_is_told : FuncData} (G_is_told : FnOk P w K mg base CX0 4 f_is_told fd_is_told ["told", "breakers", "parts"] (spX K xc g_is_told)) (m_is_told : mg "is_told" = some (.ref f_is_told)) (k_is_told : PySem.W.keepIn K (.ref f_is_told) = true) (b_is_told : Binds K fd_is_told ["told", "breakers", "parts"] []) {f_check : Addr} {fd_check : FuncData} (G_check : FnOk P w K mg base (L2.CX P w) 2 f_check fd_check ["is_right", "name", "why"] (spX K xc g_check)) (m_check : mg "check" = some (.ref f_check)) (k_check : PySem.W.keepIn K (.ref f_check) = true) (b_check : Binds K fd_check ["is_right", "name", "why"] []) {f_is_whole : Addr} {fd_is_whole : FuncData} (G_is_whole : FnOk P w K mg base CX0 1 f_is_whole fd_is_whole ["thing", "least", "most"] (spX K xc g_is_whole)) (m_is_whole : mg "is_whole" = some (.ref f_is_whole)) (k_is_whole : PySem.W.keepIn K (.ref f_is_whole) = true) (b_is_whole : Binds K fd_is_whole ["thing", "least", "most"] []) {f_is_rules : Addr} {fd_is_rules : FuncData} (G_is_rules : FnOk P w K mg base CX0 3 f_is_rules fd_is_rules ["rules"] (spX K xc g_is_rules)) (m_is_rules : mg "is_rules" = some (.ref f_is_rules)) (k_is_rules : PySem.W.keepIn K (.ref f_is_rules) = true) (b_is_rules : Binds K fd_is_rules ["rules"] []) (mm_all : mg "all" = none) (mm_isinstance : mg "isinstance" = none) (mm_len : mg "len" = none) (mm_tuple : mg "tuple" = none) (mm_zip : mg "zip" = none) (t_MOST_DELAY : Top K mg "MOST_DELAY" (.int 20)) : FnOk P w K mg base (L2.CX P w) 5 f fd ["net"] (spX K xc g_check_net) :=
  def_okX D sc_check_net (by decide) fun cdv A outer s H E H0 as0 O0 hr => by
    have nd := sc_check_net.nd
    exact (ds_cons (ds_expr (de_callR G_check_lists (hr.mono (by decide)) m_check_lists k_check_lists b_check_lists (takes_of rfl rfl rfl rfl) (da_cons (de_var 0) da_nil)))
    (ds_cons (ds_asg (de_var 0) (dg_tup rfl rfl (dgs_cons (dg_name 1 nd) (dgs_cons (dg_name 2 nd) (dgs_cons (dg_name 3 nd) (dgs_cons (dg_name 4 nd) (dgs_cons (dg_name 5 nd) dgs_nil)))))))
    (ds_cons (ds_asg (de_tup (da_cons (de_call G_breakers_of (hr.mono (by decide)) m_breakers_of k_breakers_of b_breakers_of pass0 (da_cons (de_var 0) da_nil)) (da_cons (de_lst (da_star rfl (de_var 1) (da_star rfl (de_lc (own := [("line", 10)]) rfl nd (blkOk_by (N := ["net", "buses", "lines", "sources", "guards", "rules", "breakers", "parts", "guard", "opens", "line", "one", "other"]) (sc := defScope s_check_net) (by decide +kernel)) (di_seq rfl (de_var 2)) (fun _ _ _ _ _ => (dg_name 10 nd)) (fun _ _ _ _ _ => dts_nil) (fun _ _ _ _ _ => (de_ix3 hr rfl hpw (de_var 10) de_int))) da_nil))) da_nil))) (dg_tup rfl rfl (dgs_cons (dg_name 6 nd) (dgs_cons (dg_name 7 nd) dgs_nil))))
    (ds_cons (ds_for (passes_of rfl) rfl (di_seq rfl (de_var 4)) (dg_name 8 nd) (ds_cons (ds_expr (de_callR G_check (hr.mono (by decide)) m_check k_check b_check (takes_of rfl rfl rfl rfl) (da_cons (de_and (de_eq hr.units rfl (de_len2 rfl mm_len (da_cons (de_var 8) da_nil)) de_int) (de_one (de_call G_is_told (hr.mono (by decide)) m_is_told k_is_told b_is_told pass0 (da_cons (de_ix3 hr rfl hpw (de_var 8) de_int) (da_cons (de_var 6) (da_cons (de_var 7) da_nil)))))) (da_cons (de_ix3 hr rfl hpw (de_var 8) de_int) (da_cons de_str da_nil)))))
    (ds_cons (ds_expr (de_callR G_check (hr.mono (by decide)) m_check k_check b_check (takes_of rfl rfl rfl rfl) (da_cons (de_call G_is_whole (hr.mono (by decide)) m_is_whole k_is_whole b_is_whole pass0 (da_cons (de_ix3 hr rfl hpw (de_var 8) de_int) (da_cons de_int (da_cons (de_top t_MOST_DELAY) da_nil)))) (da_cons (de_ix3 hr rfl hpw (de_var 8) de_int) (da_cons de_str da_nil)))))
    (ds_cons (ds_set 9 nd (de_ix3 hr rfl hpw (de_var 8) de_int))
    (ds_cons (ds_expr (de_callR G_check (hr.mono (by decide)) m_check k_check b_check (takes_of rfl rfl rfl rfl) (da_cons (de_and (de_isi "tuple" rfl mm_isinstance mm_tuple (by decide +kernel) (de_var 9)) (de_one (de_gt2 hr.units rfl (de_len2 rfl mm_len (da_cons (de_var 9) da_nil)) de_int))) (da_cons (de_ix3 hr rfl hpw (de_var 8) de_int) (da_cons de_str da_nil)))))
    (ds_cons (ds_expr (de_callR G_check (hr.mono (by decide)) m_check k_check b_check (takes_of rfl rfl rfl rfl) (da_cons (de_all rfl rfl mm_all (da_cons (de_lc (own := [("one", 11)]) rfl nd (blkOk_by (N := ["net", "buses", "lines", "sources", "guards", "rules", "breakers", "parts", "guard", "opens", "line", "one", "other"]) (sc := defScope s_check_net) (by decide +kernel)) (di_seq rfl (de_var 9)) (fun _ _ _ _ _ => (dg_name 11 nd)) (fun _ _ _ _ _ => dts_nil) (fun _ _ _ _ _ => (de_in3 hr rfl hpw (de_var 11) (de_var 6)))) da_nil)) (da_cons (de_ix3 hr rfl hpw (de_var 8) de_int) (da_cons de_str da_nil)))))
    (ds_one (ds_expr (de_callR G_check (hr.mono (by decide)) m_check k_check b_check (takes_of rfl rfl rfl rfl) (da_cons (de_all rfl rfl mm_all (da_cons (de_lc (own := [("one", 11), ("other", 12)]) rfl nd (blkOk_by (N := ["net", "buses", "lines", "sources", "guards", "rules", "breakers", "parts", "guard", "opens", "line", "one", "other"]) (sc := defScope s_check_net) (by decide +kernel)) (di_zip rfl mm_zip (da_cons (de_var 9) (da_cons (de_slice rfl (de_var 9) (do_some de_int) do_none) da_nil))) (fun _ _ _ _ _ => (dg_tup rfl rfl (dgs_cons (dg_name 11 nd) (dgs_cons (dg_name 12 nd) dgs_nil)))) (fun _ _ _ _ _ => dts_nil) (fun _ _ _ _ _ => (de_lt2 hr.units rfl (de_var 11) (de_var 12)))) da_nil)) (da_cons (de_ix3 hr rfl hpw (de_var 8) de_int) (da_cons de_str da_nil))))))))))))
    (ds_one (ds_expr (de_callR G_check (hr.mono (by decide)) m_check k_check b_check (takes_of rfl rfl rfl rfl) (da_cons (de_call G_is_rules (hr.mono (by decide)) m_is_rules k_is_rules b_is_rules pass0 (da_cons (de_var 5) da_nil)) (da_cons de_non (da_cons de_str da_nil))))))))))
theorem ok_is_net {f : Addr} {fd : FuncData} (D : Fun K "is_net" "is_net" s_is_net f fd) (hpw : xc.pw = some (P, w)) {f_check_net : Addr} {fd_check_net : FuncData} (G_check_net : FnOk P w K mg base (L2.CX P w) 5 f_check_net fd_check_net ["net"] (spX K xc g_check_net)) (m_check_net : mg "check_net" = some (.ref f_check_net)) (k_check_net : PySem.W.keepIn K (.ref f_check_net) = true) (b_check_net : Binds K fd_check_net ["net"] []) {C_BadNet B_BadNet fI_BadNet : Addr} (T_BadNet : PySem.ExF.Tx_BadNet K C_BadNet B_BadNet fI_BadNet) (x_BadNet : xc.ex 2 = some (C_BadNet, (["name", "why"] : List Str))) (x_BadNet_g : mg "BadNet" = some (.ref C_BadNet)) (ct_BadNet : CatchK K xc (.ref C_BadNet) [2]) : FnOk P w K mg base CX0 6 f fd ["thing"] (spX K xc g_is_net) :=
  def_ok D sc_is_net (by decide) fun cdv A outer s H E H0 as0 O0 hr => by
    have nd := sc_is_net.nd
    exact (ds_cons (ds_try rfl rfl ⟨rfl, by decide, .inl x_BadNet_g⟩ ct_BadNet takes0 (fun W pn xe tk po => (ds_one (ds_expr (de_callR G_check_net (hr.mono (by decide)) m_check_net k_check_net b_check_net tk (da_cons (de_var 0) da_nil))))) (fun a oe cls d pn hz hf => (ds_one (ds_ret de_bl))))
    (ds_one (ds_ret de_bl)))
theorem ok__law_put {f : Addr} {fd : FuncData} (D : Fun K "_law_put" "_law_put" s__law_put f fd) (hpw : xc.pw = some (P, w)) : FnOk P w K mg base CX0 1 f fd ["_law_net_here", "_law_at", "_law_thing"] (spX K xc g__law_put) :=
  def_ok D sc__law_put (by decide) fun cdv A outer s H E H0 as0 O0 hr => by
    have nd := sc__law_put.nd
    exact (ds_one (ds_ret (de_add rfl (de_add rfl (de_slice rfl (de_var 0) do_none (do_some (de_var 1))) (de_tup (da_cons (de_var 2) da_nil))) (de_slice rfl (de_var 0) (do_some (de_add rfl (de_var 1) de_int)) do_none))))
theorem ok__law_wrong {f : Addr} {fd : FuncData} (D : Fun K "_law_wrong" "_law_wrong" s__law_wrong f fd) (hpw : xc.pw = some (P, w)) {f__law_next : Addr} {fd__law_next : FuncData} (G__law_next : FnOk P w K mg base CX0 3 f__law_next fd__law_next ["_law_draw_here", "_law_bound"] (spX K xc g__law_next)) (m__law_next : mg "_law_next" = some (.ref f__law_next)) (k__law_next : PySem.W.keepIn K (.ref f__law_next) = true) (b__law_next : Binds K fd__law_next ["_law_draw_here", "_law_bound"] []) {f__law_put : Addr} {fd__law_put : FuncData} (G__law_put : FnOk P w K mg base CX0 1 f__law_put fd__law_put ["_law_net_here", "_law_at", "_law_thing"] (spX K xc g__law_put)) (m__law_put : mg "_law_put" = some (.ref f__law_put)) (k__law_put : PySem.W.keepIn K (.ref f__law_put) = true) (b__law_put : Binds K fd__law_put ["_law_net_here", "_law_at", "_law_thing"] []) (mm_len : mg "len" = none) (mm_list : mg "list" = none) (mm_range : mg "range" = none) (mm_str : mg "str" = none) (mm_tuple : mg "tuple" = none) : FnOk P w K mg base CX0 4 f fd ["_law_draw_here", "_law_net_here"] (spX K xc g__law_wrong) :=
  def_ok D sc__law_wrong (by decide) fun cdv A outer s H E H0 as0 O0 hr => by
    have nd := sc__law_wrong.nd
    exact (ds_cons (ds_asg (de_var 1) (dg_tup rfl rfl (dgs_cons (dg_name 2 nd) (dgs_cons (dg_name 3 nd) (dgs_cons (dg_name 4 nd) (dgs_cons (dg_name 5 nd) (dgs_cons (dg_name 6 nd) dgs_nil)))))))
    (ds_cons (ds_asg (de_tup (da_cons (de_ix3 hr rfl hpw (de_var 5) (de_call G__law_next (hr.mono (by decide)) m__law_next k__law_next b__law_next pass0 (da_cons (de_var 0) (da_cons (de_len2 rfl mm_len (da_cons (de_var 5) da_nil)) da_nil)))) (da_cons (de_call G__law_next (hr.mono (by decide)) m__law_next k__law_next b__law_next pass0 (da_cons (de_var 0) (da_cons de_int da_nil))) da_nil))) (dg_tup rfl rfl (dgs_cons (dg_name 7 nd) (dgs_cons (dg_name 8 nd) dgs_nil))))
    (ds_cons (ds_asg (de_var 7) (dg_tup rfl rfl (dgs_cons (dg_name 9 nd) (dgs_cons (dg_name 10 nd) (dgs_cons (dg_name 11 nd) (dgs_cons (dg_name 12 nd) dgs_nil))))))
    (ds_cons (ds_set 13 nd (de_tupOf2 rfl mm_tuple (da_cons (de_lc (own := [("_law_one", 20)]) rfl nd (blkOk_by (N := ["_law_draw_here", "_law_net_here", "_law_buses", "_law_lines_here", "_law_sources", "_law_guards", "_law_rules", "_law_guard", "_law_number_here", "_law_name", "_law_told", "_law_delay", "_law_opens", "_law_rest", "_law_late", "_law_looks_here", "_law_error", "_law_least", "_law_most", "_law_ticks", "_law_one", "_law_at"]) (sc := defScope s__law_wrong) (by decide +kernel)) (di_seq rfl (de_var 5)) (fun _ _ _ _ _ => (dg_name 20 nd)) (fun _ _ _ _ _ => (dts_one (dt_ne hr.units rfl (de_var 20) (de_var 7)))) (fun _ _ _ _ _ => (de_var 20))) da_nil)))
    (ds_cons (ds_if (dt_lt2 hr.units rfl (de_var 8) de_int) (ds_cons (ds_set 14 nd (de_ix3 hr rfl hpw (de_tup (da_cons (de_tup (da_cons (de_var 9) (da_cons (de_var 10) (da_cons (de_neg de_int) (da_cons (de_var 12) da_nil))))) (da_cons (de_tup (da_cons (de_var 9) (da_cons (de_var 10) (da_cons de_int (da_cons (de_var 12) da_nil))))) (da_cons (de_tup (da_cons (de_var 9) (da_cons (de_var 10) (da_cons (de_var 11) (da_cons (de_tup da_nil) da_nil))))) (da_cons (de_tup (da_cons (de_var 9) (da_cons (de_var 10) (da_cons (de_var 11) (da_cons (de_add rfl (de_var 12) (de_slice rfl (de_var 12) do_none (do_some de_int))) da_nil))))) (da_cons (de_tup (da_cons (de_var 9) (da_cons (de_tup (da_cons de_str (da_cons (de_ix3 hr rfl hpw (de_var 12) de_int) (da_cons (de_tup (da_cons de_int (da_cons de_int da_nil))) (da_cons de_bl da_nil))))) (da_cons de_int (da_cons (de_var 12) da_nil))))) da_nil)))))) (de_var 8)))
    (ds_one (ds_ret (de_call G__law_put (hr.mono (by decide)) m__law_put k__law_put b__law_put pass0 (da_cons (de_var 1) (da_cons de_int (da_cons (de_add rfl (de_var 13) (de_tup (da_cons (de_var 14) da_nil))) da_nil))))))) ds_nil)
    (ds_cons (ds_if (dt_lt2 hr.units rfl (de_var 8) de_int) (ds_cons (ds_set 15 nd (de_ix3 hr rfl hpw (de_tup (da_cons (de_tup (da_cons de_str (da_cons (de_ix3 hr rfl hpw (de_var 12) de_int) da_nil))) (da_cons (de_tup (da_cons de_str (da_cons (de_ix3 hr rfl hpw (de_var 12) de_int) (da_cons (de_tup (da_cons de_int (da_cons de_int da_nil))) da_nil)))) (da_cons (de_tup (da_cons de_str (da_cons (de_tup (da_cons de_str (da_cons de_int da_nil))) da_nil))) (da_cons (de_tup (da_cons de_str (da_cons de_str (da_cons (de_tup (da_cons de_int (da_cons de_int da_nil))) da_nil)))) (da_cons (de_var 10) da_nil)))))) (de_sub (de_var 8) de_int)))
    (ds_cons (ds_set 14 nd (de_tup (da_cons (de_var 9) (da_cons (de_var 15) (da_cons de_int (da_cons (de_if (dt_lt2 hr.units rfl (de_var 8) de_int) (de_var 12) (de_lst (da_cons (de_ix3 hr rfl hpw (de_var 12) de_int) da_nil))) da_nil))))))
    (ds_one (ds_ret (de_call G__law_put (hr.mono (by decide)) m__law_put k__law_put b__law_put pass0 (da_cons (de_var 1) (da_cons de_int (da_cons (de_add rfl (de_var 13) (de_tup (da_cons (de_var 14) da_nil))) da_nil)))))))) ds_nil)
    (ds_cons (ds_if (dt_lt2 hr.units rfl (de_var 8) de_int) (ds_cons (ds_asg (de_var 6) (dg_tup rfl rfl (dgs_cons (dg_name 16 nd) (dgs_cons (dg_name 17 nd) (dgs_cons (dg_name 18 nd) (dgs_cons (dg_name 19 nd) dgs_nil))))))
    (ds_one (ds_ret (de_call G__law_put (hr.mono (by decide)) m__law_put k__law_put b__law_put pass0 (da_cons (de_var 1) (da_cons de_int (da_cons (de_ix3 hr rfl hpw (de_tup (da_cons (de_tup (da_cons (de_var 16) (da_cons (de_var 17) (da_cons (de_sub (de_var 17) de_int) (da_cons (de_var 19) da_nil))))) (da_cons (de_tup (da_cons (de_var 16) (da_cons de_int (da_cons (de_var 18) (da_cons (de_var 19) da_nil))))) (da_cons (de_tup (da_cons (de_var 16) (da_cons (de_var 17) (da_cons de_int (da_cons (de_var 19) da_nil))))) (da_cons (de_tup (da_cons (de_tup (da_cons de_int (da_cons de_int da_nil))) (da_cons (de_var 17) (da_cons (de_var 18) (da_cons (de_var 19) da_nil))))) (da_cons (de_tup (da_cons (de_var 16) (da_cons (de_var 17) (da_cons (de_var 18) (da_cons de_int da_nil))))) da_nil)))))) (de_sub (de_var 8) de_int)) da_nil))))))) ds_nil)
    (ds_cons (ds_if (dt_lt2 hr.units rfl (de_var 8) de_int) (ds_one (ds_ret (de_call G__law_put (hr.mono (by decide)) m__law_put k__law_put b__law_put pass0 (da_cons (de_var 1) (da_cons de_int (da_cons (de_ix3 hr rfl hpw (de_tup (da_cons (de_tup da_nil) (da_cons (de_add rfl (de_var 4) (de_var 4)) (da_cons (de_tup (da_cons (de_tup (da_cons de_str (da_cons de_str (da_cons de_int da_nil)))) da_nil)) (da_cons (de_tup (da_cons (de_tup (da_cons de_str (da_cons (de_ix3 hr rfl hpw (de_var 2) de_int) (da_cons de_int da_nil)))) da_nil)) da_nil))))) (de_sub (de_var 8) de_int)) da_nil)))))) ds_nil)
    (ds_cons (ds_if (dt_lt2 hr.units rfl (de_var 8) de_int) (ds_one (ds_ret (de_call G__law_put (hr.mono (by decide)) m__law_put k__law_put b__law_put pass0 (da_cons (de_var 1) (da_cons de_int (da_cons (de_ix3 hr rfl hpw (de_tup (da_cons (de_tup da_nil) (da_cons (de_add rfl (de_var 2) (de_slice rfl (de_var 2) do_none (do_some de_int))) (da_cons (de_tupOf2 rfl mm_tuple (da_cons (de_lc (own := [("_law_at", 21)]) rfl nd (blkOk_by (N := ["_law_draw_here", "_law_net_here", "_law_buses", "_law_lines_here", "_law_sources", "_law_guards", "_law_rules", "_law_guard", "_law_number_here", "_law_name", "_law_told", "_law_delay", "_law_opens", "_law_rest", "_law_late", "_law_looks_here", "_law_error", "_law_least", "_law_most", "_law_ticks", "_law_one", "_law_at"]) (sc := defScope s__law_wrong) (by decide +kernel)) (di_range1 mm_range (da_cons de_int da_nil)) (fun _ _ _ _ _ => (dg_name 21 nd)) (fun _ _ _ _ _ => dts_nil) (fun _ _ _ _ _ => (de_add rfl de_str (de_strOf mm_str (da_cons (de_var 21) da_nil))))) da_nil)) da_nil)))) (de_sub (de_var 8) de_int)) da_nil)))))) ds_nil)
    (ds_one (ds_ret (de_ix3 hr rfl hpw (de_tup (da_cons (de_add rfl (de_var 1) (de_tup (da_cons de_int da_nil))) (da_cons (de_lstOf2 rfl mm_list (da_cons (de_var 1) da_nil)) da_nil))) (de_sub (de_var 8) de_int)))))))))))))
theorem okN_check {f : Addr} {fd : FuncData} (D : Fun K "check" "check" s_check f fd) (hpw : xc.pw = some (P, w)) {C_BadNet B_BadNet fI_BadNet : Addr} (T_BadNet : PySem.ExF.Tx_BadNet K C_BadNet B_BadNet fI_BadNet) (x_BadNet : xc.ex 2 = some (C_BadNet, (["name", "why"] : List Str))) (x_BadNet_g : mg "BadNet" = some (.ref C_BadNet)) : FnOk P w K mg base (L2N.CX P w) 2 f fd ["is_right", "name", "why"] (spX K xc g_check) :=
  def_okN D sc_check (by decide) fun cdv A outer s H E H0 as0 O0 hr => by
    have nd := sc_check.nd
    exact (ds_one (ds_if (dt_not (dt_val (de_var 0))) (ds_one (ds_raiseN 2 rfl (L2N.takes_of rfl rfl rfl rfl) x_BadNet rfl (pmkN_BadNet T_BadNet x_BadNet_g (L2H.roomH_of hr) (da_cons (de_var 1) (da_cons (de_var 2) da_nil))))) ds_nil))
theorem okN_check_lists {f : Addr} {fd : FuncData} (D : Fun K "check_lists" "check_lists" s_check_lists f fd) (hpw : xc.pw = some (P, w)) {f_check : Addr} {fd_check : FuncData} (GN_check : FnOk P w K mg base (L2N.CX P w) 2 f_check fd_check ["is_right", "name", "why"] (spX K xc g_check)) (m_check : mg "check" = some (.ref f_check)) (k_check : PySem.W.keepIn K (.ref f_check) = true) (b_check : Binds K fd_check ["is_right", "name", "why"] []) {f_is_name : Addr} {fd_is_name : FuncData} (G_is_name : FnOk P w K mg base CX0 1 f_is_name fd_is_name ["thing"] (spX K xc g_is_name)) (m_is_name : mg "is_name" = some (.ref f_is_name)) (k_is_name : PySem.W.keepIn K (.ref f_is_name) = true) (b_is_name : Binds K fd_is_name ["thing"] []) {f_is_whole : Addr} {fd_is_whole : FuncData} (G_is_whole : FnOk P w K mg base CX0 1 f_is_whole fd_is_whole ["thing", "least", "most"] (spX K xc g_is_whole)) (m_is_whole : mg "is_whole" = some (.ref f_is_whole)) (k_is_whole : PySem.W.keepIn K (.ref f_is_whole) = true) (b_is_whole : Binds K fd_is_whole ["thing", "least", "most"] []) (mm_all : mg "all" = none) (mm_isinstance : mg "isinstance" = none) (mm_len : mg "len" = none) (mm_tuple : mg "tuple" = none) (t_MOST_BUSES : Top K mg "MOST_BUSES" (.int 6)) (t_MOST_GUARDS : Top K mg "MOST_GUARDS" (.int 16)) (t_MOST_LINES : Top K mg "MOST_LINES" (.int 8)) (t_MOST_SOURCES : Top K mg "MOST_SOURCES" (.int 3)) (t_MOST_X : Top K mg "MOST_X" (.int 1000)) : FnOk P w K mg base (L2N.CX P w) 3 f fd ["net"] (spX K xc g_check_lists) :=
  def_okN D sc_check_lists (by decide) fun cdv A outer s H E H0 as0 O0 hr => by
    have nd := sc_check_lists.nd
    exact (ds_cons (ds_expr (de_callRN GN_check (hr.mono (by decide)) m_check k_check b_check (L2N.takes_of rfl rfl rfl rfl) (da_cons (de_and (de_isi "tuple" rfl mm_isinstance mm_tuple (by decide +kernel) (de_var 0)) (de_one (de_eq hr.units rfl (de_len2 rfl mm_len (da_cons (de_var 0) da_nil)) de_int))) (da_cons de_non (da_cons de_str da_nil)))))
    (ds_cons (ds_expr (de_callRN GN_check (hr.mono (by decide)) m_check k_check b_check (L2N.takes_of rfl rfl rfl rfl) (da_cons (de_all rfl rfl mm_all (da_cons (de_lc (own := [("one", 10)]) rfl nd (blkOk_by (N := ["net", "buses", "lines", "sources", "guards", "rules", "names", "thing", "line", "source", "one", "bus"]) (sc := defScope s_check_lists) (by decide +kernel)) (di_seq rfl (de_var 0)) (fun _ _ _ _ _ => (dg_name 10 nd)) (fun _ _ _ _ _ => dts_nil) (fun _ _ _ _ _ => (de_isi "tuple" rfl mm_isinstance mm_tuple (by decide +kernel) (de_var 10)))) da_nil)) (da_cons de_non (da_cons de_str da_nil)))))
    (ds_cons (ds_asg (de_var 0) (dg_tup rfl rfl (dgs_cons (dg_name 1 nd) (dgs_cons (dg_name 2 nd) (dgs_cons (dg_name 3 nd) (dgs_cons (dg_name 4 nd) (dgs_cons (dg_name 5 nd) dgs_nil)))))))
    (ds_cons (ds_expr (de_callRN GN_check (hr.mono (by decide)) m_check k_check b_check (L2N.takes_of rfl rfl rfl rfl) (da_cons (de_and (de_chain (cp_le) (cp_le) de_int (de_len2 rfl mm_len (da_cons (de_var 1) da_nil)) (de_top t_MOST_BUSES)) (de_one (de_le2 hr.units rfl (de_len2 rfl mm_len (da_cons (de_var 2) da_nil)) (de_top t_MOST_LINES)))) (da_cons de_non (da_cons de_str da_nil)))))
    (ds_cons (ds_expr (de_callRN GN_check (hr.mono (by decide)) m_check k_check b_check (L2N.takes_of rfl rfl rfl rfl) (da_cons (de_and (de_chain (cp_le) (cp_le) de_int (de_len2 rfl mm_len (da_cons (de_var 3) da_nil)) (de_top t_MOST_SOURCES)) (de_one (de_le2 hr.units rfl (de_len2 rfl mm_len (da_cons (de_var 4) da_nil)) (de_top t_MOST_GUARDS)))) (da_cons de_non (da_cons de_str da_nil)))))
    (ds_cons (ds_dict 6 nd)
    (ds_cons (ds_for (passes_of rfl) rfl (di_seq rfl (de_lst (da_star rfl (de_lc (own := [("bus", 11)]) rfl nd (blkOk_by (N := ["net", "buses", "lines", "sources", "guards", "rules", "names", "thing", "line", "source", "one", "bus"]) (sc := defScope s_check_lists) (by decide +kernel)) (di_seq rfl (de_var 1)) (fun _ _ _ _ _ => (dg_name 11 nd)) (fun _ _ _ _ _ => dts_nil) (fun _ _ _ _ _ => (de_tup (da_cons (de_var 11) da_nil)))) (da_star rfl (de_var 2) (da_star rfl (de_var 3) (da_star rfl (de_var 4) da_nil)))))) (dg_name 7 nd) (ds_cons (ds_expr (de_callRN GN_check (hr.mono (by decide)) m_check k_check b_check (L2N.takes_of rfl rfl rfl rfl) (da_cons (de_and (de_isi "tuple" rfl mm_isinstance mm_tuple (by decide +kernel) (de_var 7)) (de_and (de_gt2 hr.units rfl (de_len2 rfl mm_len (da_cons (de_var 7) da_nil)) de_int) (de_one (de_call G_is_name (hr.mono (by decide)) m_is_name k_is_name b_is_name pass0 (da_cons (de_ix3 hr rfl hpw (de_var 7) de_int) da_nil))))) (da_cons de_non (da_cons de_str da_nil)))))
    (ds_cons (ds_expr (de_callRN GN_check (hr.mono (by decide)) m_check k_check b_check (L2N.takes_of rfl rfl rfl rfl) (da_cons (de_hasNot 6 (room1 hr) (de_ix3 hr rfl hpw (de_var 7) de_int)) (da_cons (de_ix3 hr rfl hpw (de_var 7) de_int) (da_cons de_str da_nil)))))
    (ds_one (ds_putOwn 6 (room1 hr) de_bl (de_ix3 hr rfl hpw (de_var 7) de_int))))))
    (ds_cons (ds_for (passes_of rfl) rfl (di_seq rfl (de_var 2)) (dg_name 8 nd) (ds_cons (ds_expr (de_callRN GN_check (hr.mono (by decide)) m_check k_check b_check (L2N.takes_of rfl rfl rfl rfl) (da_cons (de_and (de_eq hr.units rfl (de_len2 rfl mm_len (da_cons (de_var 8) da_nil)) de_int) (de_and (de_in3 hr rfl hpw (de_ix3 hr rfl hpw (de_var 8) de_int) (de_var 1)) (de_and (de_in3 hr rfl hpw (de_ix3 hr rfl hpw (de_var 8) de_int) (de_var 1)) (de_one (de_ne hr.units rfl (de_ix3 hr rfl hpw (de_var 8) de_int) (de_ix3 hr rfl hpw (de_var 8) de_int)))))) (da_cons (de_ix3 hr rfl hpw (de_var 8) de_int) (da_cons de_str da_nil)))))
    (ds_one (ds_expr (de_callRN GN_check (hr.mono (by decide)) m_check k_check b_check (L2N.takes_of rfl rfl rfl rfl) (da_cons (de_call G_is_whole (hr.mono (by decide)) m_is_whole k_is_whole b_is_whole pass0 (da_cons (de_ix3 hr rfl hpw (de_var 8) de_int) (da_cons de_int (da_cons (de_top t_MOST_X) da_nil)))) (da_cons (de_ix3 hr rfl hpw (de_var 8) de_int) (da_cons de_str da_nil))))))))
    (ds_one (ds_for (passes_of rfl) rfl (di_seq rfl (de_var 3)) (dg_name 9 nd) (ds_cons (ds_expr (de_callRN GN_check (hr.mono (by decide)) m_check k_check b_check (L2N.takes_of rfl rfl rfl rfl) (da_cons (de_and (de_eq hr.units rfl (de_len2 rfl mm_len (da_cons (de_var 9) da_nil)) de_int) (de_one (de_in3 hr rfl hpw (de_ix3 hr rfl hpw (de_var 9) de_int) (de_var 1)))) (da_cons (de_ix3 hr rfl hpw (de_var 9) de_int) (da_cons de_str da_nil)))))
    (ds_one (ds_expr (de_callRN GN_check (hr.mono (by decide)) m_check k_check b_check (L2N.takes_of rfl rfl rfl rfl) (da_cons (de_call G_is_whole (hr.mono (by decide)) m_is_whole k_is_whole b_is_whole pass0 (da_cons (de_ix3 hr rfl hpw (de_var 9) de_int) (da_cons de_int (da_cons (de_top t_MOST_X) da_nil)))) (da_cons (de_ix3 hr rfl hpw (de_var 9) de_int) (da_cons de_str da_nil)))))))))))))))))
theorem okN_check_net {f : Addr} {fd : FuncData} (D : Fun K "check_net" "check_net" s_check_net f fd) (hpw : xc.pw = some (P, w)) {f_check_lists : Addr} {fd_check_lists : FuncData} (GN_check_lists : FnOk P w K mg base (L2N.CX P w) 3 f_check_lists fd_check_lists ["net"] (spX K xc g_check_lists)) (m_check_lists : mg "check_lists" = some (.ref f_check_lists)) (k_check_lists : PySem.W.keepIn K (.ref f_check_lists) = true) (b_check_lists : Binds K fd_check_lists ["net"] []) {f_breakers_of : Addr} {fd_breakers_of : FuncData} (G_breakers_of : FnOk P w K mg base CX0 1 f_breakers_of fd_breakers_of ["net"] (spX K xc g_breakers_of)) (m_breakers_of : mg "breakers_of" = some (.ref f_breakers_of)) (k_breakers_of : PySem.W.keepIn K (.ref f_breakers_of) = true) (b_breakers_of : Binds K fd_breakers_of ["net"] []) {f_is_told : Addr} {fd_is_told : FuncData} (G_is_told : FnOk P w K mg base CX0 4 f_is_told fd_is_told ["told", "breakers", "parts"] (spX K xc g_is_told)) (m_is_told : mg "is_told" = some (.ref f_is_told)) (k_is_told : PySem.W.keepIn K (.ref f_is_told) = true) (b_is_told : Binds K fd_is_told ["told", "breakers", "parts"] []) {f_check : Addr} {fd_check : FuncData} (GN_check : FnOk P w K mg base (L2N.CX P w) 2 f_check fd_check ["is_right", "name", "why"] (spX K xc g_check)) (m_check : mg "check" = some (.ref f_check)) (k_check : PySem.W.keepIn K (.ref f_check) = true) (b_check : Binds K fd_check ["is_right", "name", "why"] []) {f_is_whole : Addr} {fd_is_whole : FuncData} (G_is_whole : FnOk P w K mg base CX0 1 f_is_whole fd_is_whole ["thing", "least", "most"] (spX K xc g_is_whole)) (m_is_whole : mg "is_whole" = some (.ref f_is_whole)) (k_is_whole : PySem.W.keepIn K (.ref f_is_whole) = true) (b_is_whole : Binds K fd_is_whole ["thing", "least", "most"] []) {f_is_rules : Addr} {fd_is_rules : FuncData} (G_is_rules : FnOk P w K mg base CX0 3 f_is_rules fd_is_rules ["rules"] (spX K xc g_is_rules)) (m_is_rules : mg "is_rules" = some (.ref f_is_rules)) (k_is_rules : PySem.W.keepIn K (.ref f_is_rules) = true) (b_is_rules : Binds K fd_is_rules ["rules"] []) (mm_all : mg "all" = none) (mm_isinstance : mg "isinstance" = none) (mm_len : mg "len" = none) (mm_tuple : mg "tuple" = none) (mm_zip : mg "zip" = none) (t_MOST_DELAY : Top K mg "MOST_DELAY" (.int 20)) : FnOk P w K mg base (L2N.CX P w) 5 f fd ["net"] (spX K xc g_check_net) :=
  def_okN D sc_check_net (by decide) fun cdv A outer s H E H0 as0 O0 hr => by
    have nd := sc_check_net.nd
    exact (ds_cons (ds_expr (de_callRN GN_check_lists (hr.mono (by decide)) m_check_lists k_check_lists b_check_lists (L2N.takes_of rfl rfl rfl rfl) (da_cons (de_var 0) da_nil)))
    (ds_cons (ds_asg (de_var 0) (dg_tup rfl rfl (dgs_cons (dg_name 1 nd) (dgs_cons (dg_name 2 nd) (dgs_cons (dg_name 3 nd) (dgs_cons (dg_name 4 nd) (dgs_cons (dg_name 5 nd) dgs_nil)))))))
    (ds_cons (ds_asg (de_tup (da_cons (de_call G_breakers_of (hr.mono (by decide)) m_breakers_of k_breakers_of b_breakers_of pass0 (da_cons (de_var 0) da_nil)) (da_cons (de_lst (da_star rfl (de_var 1) (da_star rfl (de_lc (own := [("line", 10)]) rfl nd (blkOk_by (N := ["net", "buses", "lines", "sources", "guards", "rules", "breakers", "parts", "guard", "opens", "line", "one", "other"]) (sc := defScope s_check_net) (by decide +kernel)) (di_seq rfl (de_var 2)) (fun _ _ _ _ _ => (dg_name 10 nd)) (fun _ _ _ _ _ => dts_nil) (fun _ _ _ _ _ => (de_ix3 hr rfl hpw (de_var 10) de_int))) da_nil))) da_nil))) (dg_tup rfl rfl (dgs_cons (dg_name 6 nd) (dgs_cons (dg_name 7 nd) dgs_nil))))
    (ds_cons (ds_for (passes_of rfl) rfl (di_seq rfl (de_var 4)) (dg_name 8 nd) (ds_cons (ds_expr (de_callRN GN_check (hr.mono (by decide)) m_check k_check b_check (L2N.takes_of rfl rfl rfl rfl) (da_cons (de_and (de_eq hr.units rfl (de_len2 rfl mm_len (da_cons (de_var 8) da_nil)) de_int) (de_one (de_call G_is_told (hr.mono (by decide)) m_is_told k_is_told b_is_told pass0 (da_cons (de_ix3 hr rfl hpw (de_var 8) de_int) (da_cons (de_var 6) (da_cons (de_var 7) da_nil)))))) (da_cons (de_ix3 hr rfl hpw (de_var 8) de_int) (da_cons de_str da_nil)))))
    (ds_cons (ds_expr (de_callRN GN_check (hr.mono (by decide)) m_check k_check b_check (L2N.takes_of rfl rfl rfl rfl) (da_cons (de_call G_is_whole (hr.mono (by decide)) m_is_whole k_is_whole b_is_whole pass0 (da_cons (de_ix3 hr rfl hpw (de_var 8) de_int) (da_cons de_int (da_cons (de_top t_MOST_DELAY) da_nil)))) (da_cons (de_ix3 hr rfl hpw (de_var 8) de_int) (da_cons de_str da_nil)))))
    (ds_cons (ds_set 9 nd (de_ix3 hr rfl hpw (de_var 8) de_int))
    (ds_cons (ds_expr (de_callRN GN_check (hr.mono (by decide)) m_check k_check b_check (L2N.takes_of rfl rfl rfl rfl) (da_cons (de_and (de_isi "tuple" rfl mm_isinstance mm_tuple (by decide +kernel) (de_var 9)) (de_one (de_gt2 hr.units rfl (de_len2 rfl mm_len (da_cons (de_var 9) da_nil)) de_int))) (da_cons (de_ix3 hr rfl hpw (de_var 8) de_int) (da_cons de_str da_nil)))))
    (ds_cons (ds_expr (de_callRN GN_check (hr.mono (by decide)) m_check k_check b_check (L2N.takes_of rfl rfl rfl rfl) (da_cons (de_all rfl rfl mm_all (da_cons (de_lc (own := [("one", 11)]) rfl nd (blkOk_by (N := ["net", "buses", "lines", "sources", "guards", "rules", "breakers", "parts", "guard", "opens", "line", "one", "other"]) (sc := defScope s_check_net) (by decide +kernel)) (di_seq rfl (de_var 9)) (fun _ _ _ _ _ => (dg_name 11 nd)) (fun _ _ _ _ _ => dts_nil) (fun _ _ _ _ _ => (de_in3 hr rfl hpw (de_var 11) (de_var 6)))) da_nil)) (da_cons (de_ix3 hr rfl hpw (de_var 8) de_int) (da_cons de_str da_nil)))))
    (ds_one (ds_expr (de_callRN GN_check (hr.mono (by decide)) m_check k_check b_check (L2N.takes_of rfl rfl rfl rfl) (da_cons (de_all rfl rfl mm_all (da_cons (de_lc (own := [("one", 11), ("other", 12)]) rfl nd (blkOk_by (N := ["net", "buses", "lines", "sources", "guards", "rules", "breakers", "parts", "guard", "opens", "line", "one", "other"]) (sc := defScope s_check_net) (by decide +kernel)) (di_zip rfl mm_zip (da_cons (de_var 9) (da_cons (de_slice rfl (de_var 9) (do_some de_int) do_none) da_nil))) (fun _ _ _ _ _ => (dg_tup rfl rfl (dgs_cons (dg_name 11 nd) (dgs_cons (dg_name 12 nd) dgs_nil)))) (fun _ _ _ _ _ => dts_nil) (fun _ _ _ _ _ => (de_lt2 hr.units rfl (de_var 11) (de_var 12)))) da_nil)) (da_cons (de_ix3 hr rfl hpw (de_var 8) de_int) (da_cons de_str da_nil))))))))))))
    (ds_one (ds_expr (de_callRN GN_check (hr.mono (by decide)) m_check k_check b_check (L2N.takes_of rfl rfl rfl rfl) (da_cons (de_call G_is_rules (hr.mono (by decide)) m_is_rules k_is_rules b_is_rules pass0 (da_cons (de_var 5) da_nil)) (da_cons de_non (da_cons de_str da_nil))))))))))
theorem okH_check {f : Addr} {fd : FuncData} (D : Fun K "check" "check" s_check f fd) (hpw : xc.pw = some (P, w)) {C_BadNet B_BadNet fI_BadNet : Addr} (T_BadNet : PySem.ExF.Tx_BadNet K C_BadNet B_BadNet fI_BadNet) (x_BadNet : xc.ex 2 = some (C_BadNet, (["name", "why"] : List Str))) (x_BadNet_g : mg "BadNet" = some (.ref C_BadNet)) : L2H.FnH P w K mg base (L2.CX P w) 2 f fd ["is_right", "name", "why"] (spX K xc g_check) :=
  def_okXH D sc_check (by decide) fun cdv A outer s H E p H0 as0 O0 hr hot => by
    have nd := sc_check.nd
    exact (ds_one (ds_if (dt_not (dt_val (de_var 0))) (ds_one (ds_raiseH 2 hot (takes_of rfl rfl rfl rfl) x_BadNet rfl (pmkN_BadNet T_BadNet x_BadNet_g hr (da_cons (de_var 1) (da_cons (de_var 2) da_nil))))) ds_nil))
theorem okH_is_name {f : Addr} {fd : FuncData} (D : Fun K "is_name" "is_name" s_is_name f fd) (hpw : xc.pw = some (P, w)) (mm_all : mg "all" = none) (mm_isinstance : mg "isinstance" = none) (mm_len : mg "len" = none) (mm_str : mg "str" = none) (t_LETTERS : Top K mg "LETTERS" (.str "abcdefghijklmnopqrstuvwxyz0123456789")) (t_WORDS : Top K mg "WORDS" (.tuple [(.str "bus"), (.str "line"), (.str "source"), (.str "guard"), (.str "error"), (.str "breaker"), (.str "ticks"), (.str "over"), (.str "reach"), (.str "difference"), (.str "behind"), (.str "forward"), (.str "delay"), (.str "opens")])) : L2H.FnH P w K mg base CX0 1 f fd ["thing"] (spX K xc g_is_name) :=
  def_okH D sc_is_name (by decide) fun cdv A outer s H E p H0 as0 O0 hr hot => by
    have nd := sc_is_name.nd
    exact (ds_cons (ds_if (dt_bool (dw_or (dt_not (dt_val (de_isi "str" rfl mm_isinstance mm_str (by decide +kernel) (de_var 0)))) (dw_or (dt_not (dt_chain (cp_le) (cp_le) de_int (de_len2 rfl mm_len (da_cons (de_var 0) da_nil)) de_int)) (dw_or1 (dt_in3H hr rfl hpw (de_var 0) (de_top t_WORDS)))))) (ds_one (ds_ret de_bl)) ds_nil)
    (ds_one (ds_ret (de_and (de_in3H hr rfl hpw (de_ix3H hr rfl hpw (de_var 0) de_int) (de_slice rfl (de_top t_LETTERS) do_none (do_some de_int))) (de_one (de_allH hot rfl mm_all (da_cons (de_lcH (own := [("sign", 1)]) hot nd (blkOk_by (N := ["thing", "sign"]) (sc := defScope s_is_name) (by decide +kernel)) (di_seqH rfl (de_var 0)) (fun _ _ _ _ _ => (dg_name 1 nd)) (fun _ _ _ _ _ => dts_nil) (fun _ _ _ _ _ => (de_in3H hr rfl hpw (de_var 1) (de_top t_LETTERS)))) da_nil)))))))
theorem okH_is_whole {f : Addr} {fd : FuncData} (D : Fun K "is_whole" "is_whole" s_is_whole f fd) (hpw : xc.pw = some (P, w)) (mm_bool : mg "bool" = none) (mm_int : mg "int" = none) (mm_isinstance : mg "isinstance" = none) : L2H.FnH P w K mg base CX0 1 f fd ["thing", "least", "most"] (spX K xc g_is_whole) :=
  def_okH D sc_is_whole (by decide) fun cdv A outer s H E p H0 as0 O0 hr hot => by
    have nd := sc_is_whole.nd
    exact (ds_one (ds_ret (de_and (de_isi "int" rfl mm_isinstance mm_int (by decide +kernel) (de_var 0)) (de_and (de_not (de_isi "bool" rfl mm_isinstance mm_bool (by decide +kernel) (de_var 0))) (de_one (de_chain (cp_le) (cp_le) (de_var 1) (de_var 0) (de_var 2)))))))
theorem okH_check_lists {f : Addr} {fd : FuncData} (D : Fun K "check_lists" "check_lists" s_check_lists f fd) (hpw : xc.pw = some (P, w)) {f_check : Addr} {fd_check : FuncData} (GH_check : L2H.FnH P w K mg base (L2.CX P w) 2 f_check fd_check ["is_right", "name", "why"] (spX K xc g_check)) (m_check : mg "check" = some (.ref f_check)) (k_check : PySem.W.keepIn K (.ref f_check) = true) (b_check : Binds K fd_check ["is_right", "name", "why"] []) {f_is_name : Addr} {fd_is_name : FuncData} (GH_is_name : L2H.FnH P w K mg base CX0 1 f_is_name fd_is_name ["thing"] (spX K xc g_is_name)) (m_is_name : mg "is_name" = some (.ref f_is_name)) (k_is_name : PySem.W.keepIn K (.ref f_is_name) = true) (b_is_name : Binds K fd_is_name ["thing"] []) {f_is_whole : Addr} {fd_is_whole : FuncData} (GH_is_whole : L2H.FnH P w K mg base CX0 1 f_is_whole fd_is_whole ["thing", "least", "most"] (spX K xc g_is_whole)) (m_is_whole : mg "is_whole" = some (.ref f_is_whole)) (k_is_whole : PySem.W.keepIn K (.ref f_is_whole) = true) (b_is_whole : Binds K fd_is_whole ["thing", "least", "most"] []) (mm_all : mg "all" = none) (mm_isinstance : mg "isinstance" = none) (mm_len : mg "len" = none) (mm_tuple : mg "tuple" = none) (t_MOST_BUSES : Top K mg "MOST_BUSES" (.int 6)) (t_MOST_GUARDS : Top K mg "MOST_GUARDS" (.int 16)) (t_MOST_LINES : Top K mg "MOST_LINES" (.int 8)) (t_MOST_SOURCES : Top K mg "MOST_SOURCES" (.int 3)) (t_MOST_X : Top K mg "MOST_X" (.int 1000)) : L2H.FnH P w K mg base (L2.CX P w) 3 f fd ["net"] (spX K xc g_check_lists) :=
  def_okXH D sc_check_lists (by decide) fun cdv A outer s H E p H0 as0 O0 hr hot => by
    have nd := sc_check_lists.nd
    exact (ds_cons (ds_expr (de_callRH hot GH_check (hr.mono (by decide)) m_check k_check b_check (takes_of rfl rfl rfl rfl) (da_cons (de_and (de_isi "tuple" rfl mm_isinstance mm_tuple (by decide +kernel) (de_var 0)) (de_one (de_eq (unitsH hr) rfl (de_len2 rfl mm_len (da_cons (de_var 0) da_nil)) de_int))) (da_cons de_non (da_cons de_str da_nil)))))
    (ds_cons (ds_expr (de_callRH hot GH_check (hr.mono (by decide)) m_check k_check b_check (takes_of rfl rfl rfl rfl) (da_cons (de_allH hot rfl mm_all (da_cons (de_lcH (own := [("one", 10)]) hot nd (blkOk_by (N := ["net", "buses", "lines", "sources", "guards", "rules", "names", "thing", "line", "source", "one", "bus"]) (sc := defScope s_check_lists) (by decide +kernel)) (di_seqH rfl (de_var 0)) (fun _ _ _ _ _ => (dg_name 10 nd)) (fun _ _ _ _ _ => dts_nil) (fun _ _ _ _ _ => (de_isi "tuple" rfl mm_isinstance mm_tuple (by decide +kernel) (de_var 10)))) da_nil)) (da_cons de_non (da_cons de_str da_nil)))))
    (ds_cons (ds_asg (de_var 0) (dg_tupH hot rfl (dgs_cons (dg_name 1 nd) (dgs_cons (dg_name 2 nd) (dgs_cons (dg_name 3 nd) (dgs_cons (dg_name 4 nd) (dgs_cons (dg_name 5 nd) dgs_nil)))))))
    (ds_cons (ds_expr (de_callRH hot GH_check (hr.mono (by decide)) m_check k_check b_check (takes_of rfl rfl rfl rfl) (da_cons (de_and (de_chain (cp_le) (cp_le) de_int (de_len2 rfl mm_len (da_cons (de_var 1) da_nil)) (de_top t_MOST_BUSES)) (de_one (de_le2 (unitsH hr) rfl (de_len2 rfl mm_len (da_cons (de_var 2) da_nil)) (de_top t_MOST_LINES)))) (da_cons de_non (da_cons de_str da_nil)))))
    (ds_cons (ds_expr (de_callRH hot GH_check (hr.mono (by decide)) m_check k_check b_check (takes_of rfl rfl rfl rfl) (da_cons (de_and (de_chain (cp_le) (cp_le) de_int (de_len2 rfl mm_len (da_cons (de_var 3) da_nil)) (de_top t_MOST_SOURCES)) (de_one (de_le2 (unitsH hr) rfl (de_len2 rfl mm_len (da_cons (de_var 4) da_nil)) (de_top t_MOST_GUARDS)))) (da_cons de_non (da_cons de_str da_nil)))))
    (ds_cons (ds_dict 6 nd)
    (ds_cons (ds_forH (passes_of rfl) hot (di_seqH rfl (de_lst (da_star rfl (de_lcH (own := [("bus", 11)]) hot nd (blkOk_by (N := ["net", "buses", "lines", "sources", "guards", "rules", "names", "thing", "line", "source", "one", "bus"]) (sc := defScope s_check_lists) (by decide +kernel)) (di_seqH rfl (de_var 1)) (fun _ _ _ _ _ => (dg_name 11 nd)) (fun _ _ _ _ _ => dts_nil) (fun _ _ _ _ _ => (de_tup (da_cons (de_var 11) da_nil)))) (da_star rfl (de_var 2) (da_star rfl (de_var 3) (da_star rfl (de_var 4) da_nil)))))) (dg_name 7 nd) (ds_cons (ds_expr (de_callRH hot GH_check (hr.mono (by decide)) m_check k_check b_check (takes_of rfl rfl rfl rfl) (da_cons (de_and (de_isi "tuple" rfl mm_isinstance mm_tuple (by decide +kernel) (de_var 7)) (de_and (de_gt2 (unitsH hr) rfl (de_len2 rfl mm_len (da_cons (de_var 7) da_nil)) de_int) (de_one (de_callH hot GH_is_name (hr.mono (by decide)) m_is_name k_is_name b_is_name pass0 (da_cons (de_ix3H hr rfl hpw (de_var 7) de_int) da_nil))))) (da_cons de_non (da_cons de_str da_nil)))))
    (ds_cons (ds_expr (de_callRH hot GH_check (hr.mono (by decide)) m_check k_check b_check (takes_of rfl rfl rfl rfl) (da_cons (de_hasNot 6 (room1H hr) (de_ix3H hr rfl hpw (de_var 7) de_int)) (da_cons (de_ix3H hr rfl hpw (de_var 7) de_int) (da_cons de_str da_nil)))))
    (ds_one (ds_putOwn 6 (room1H hr) de_bl (de_ix3H hr rfl hpw (de_var 7) de_int))))))
    (ds_cons (ds_forH (passes_of rfl) hot (di_seqH rfl (de_var 2)) (dg_name 8 nd) (ds_cons (ds_expr (de_callRH hot GH_check (hr.mono (by decide)) m_check k_check b_check (takes_of rfl rfl rfl rfl) (da_cons (de_and (de_eq (unitsH hr) rfl (de_len2 rfl mm_len (da_cons (de_var 8) da_nil)) de_int) (de_and (de_in3H hr rfl hpw (de_ix3H hr rfl hpw (de_var 8) de_int) (de_var 1)) (de_and (de_in3H hr rfl hpw (de_ix3H hr rfl hpw (de_var 8) de_int) (de_var 1)) (de_one (de_ne (unitsH hr) rfl (de_ix3H hr rfl hpw (de_var 8) de_int) (de_ix3H hr rfl hpw (de_var 8) de_int)))))) (da_cons (de_ix3H hr rfl hpw (de_var 8) de_int) (da_cons de_str da_nil)))))
    (ds_one (ds_expr (de_callRH hot GH_check (hr.mono (by decide)) m_check k_check b_check (takes_of rfl rfl rfl rfl) (da_cons (de_callH hot GH_is_whole (hr.mono (by decide)) m_is_whole k_is_whole b_is_whole pass0 (da_cons (de_ix3H hr rfl hpw (de_var 8) de_int) (da_cons de_int (da_cons (de_top t_MOST_X) da_nil)))) (da_cons (de_ix3H hr rfl hpw (de_var 8) de_int) (da_cons de_str da_nil))))))))
    (ds_one (ds_forH (passes_of rfl) hot (di_seqH rfl (de_var 3)) (dg_name 9 nd) (ds_cons (ds_expr (de_callRH hot GH_check (hr.mono (by decide)) m_check k_check b_check (takes_of rfl rfl rfl rfl) (da_cons (de_and (de_eq (unitsH hr) rfl (de_len2 rfl mm_len (da_cons (de_var 9) da_nil)) de_int) (de_one (de_in3H hr rfl hpw (de_ix3H hr rfl hpw (de_var 9) de_int) (de_var 1)))) (da_cons (de_ix3H hr rfl hpw (de_var 9) de_int) (da_cons de_str da_nil)))))
    (ds_one (ds_expr (de_callRH hot GH_check (hr.mono (by decide)) m_check k_check b_check (takes_of rfl rfl rfl rfl) (da_cons (de_callH hot GH_is_whole (hr.mono (by decide)) m_is_whole k_is_whole b_is_whole pass0 (da_cons (de_ix3H hr rfl hpw (de_var 9) de_int) (da_cons de_int (da_cons (de_top t_MOST_X) da_nil)))) (da_cons (de_ix3H hr rfl hpw (de_var 9) de_int) (da_cons de_str da_nil)))))))))))))))))
theorem okH_breakers_of {f : Addr} {fd : FuncData} (D : Fun K "breakers_of" "breakers_of" s_breakers_of f fd) (hpw : xc.pw = some (P, w)) : L2H.FnH P w K mg base CX0 1 f fd ["net"] (spX K xc g_breakers_of) :=
  def_okH D sc_breakers_of (by decide) fun cdv A outer s H E p H0 as0 O0 hr hot => by
    have nd := sc_breakers_of.nd
    exact (ds_cons (ds_setLc2H 1 (own := [("line", 2), ("end", 3)]) (vs1 := [3]) hot nd (blkOk_by (N := ["net", "found", "line", "end", "source"]) (sc := defScope s_breakers_of) (by decide +kernel)) (sw_true rfl rfl rfl (by decide +kernel)) (di_seqH rfl (de_ix3H hr rfl hpw (de_var 0) de_int)) (fun _ _ _ _ _ => (dg_name 2 nd)) (fun _ _ _ _ _ => dts_nil) (fun _ _ _ _ _ => (di_seqH rfl (de_tup (da_cons de_int (da_cons de_int da_nil))))) (fun _ _ _ _ _ => (dg_name 3 nd)) (fun _ _ _ _ _ => dts_nil) (fun _ _ _ _ _ => (de_tup (da_cons (de_ix3H hr rfl hpw (de_var 2) de_int) (da_cons (de_var 3) da_nil)))))
    (ds_one (ds_ret (de_add rfl (de_var 1) (de_lcH (own := [("source", 4)]) hot nd (blkOk_by (N := ["net", "found", "line", "end", "source"]) (sc := defScope s_breakers_of) (by decide +kernel)) (di_seqH rfl (de_ix3H hr rfl hpw (de_var 0) de_int)) (fun _ _ _ _ _ => (dg_name 4 nd)) (fun _ _ _ _ _ => dts_nil) (fun _ _ _ _ _ => (de_tup (da_cons (de_ix3H hr rfl hpw (de_var 4) de_int) (da_cons de_int da_nil)))))))))
theorem okH_common {f : Addr} {fd : FuncData} (D : Fun K "common" "common" s_common f fd) (hpw : xc.pw = some (P, w)) (mm_abs : mg "abs" = none) : L2H.FnH P w K mg base CX0 1 f fd ["a", "b"] (spX K xc g_common) :=
  def_okH D sc_common (by decide) fun cdv A outer s H E p H0 as0 O0 hr hot => by
    have nd := sc_common.nd
    exact (ds_cons (ds_parH 0 1 hot nd (da_cons (de_abs mm_abs (da_cons (de_var 0) da_nil)) (da_cons (de_abs mm_abs (da_cons (de_var 1) da_nil)) da_nil)))
    (ds_cons (ds_while PassesOwn.never (dt_gt2 (unitsH hr) rfl (de_var 1) de_int) (ds_one (ds_parH 0 1 hot nd (da_cons (de_var 1) (da_cons (de_mod (de_var 0) (de_var 1)) da_nil)))))
    (ds_one (ds_ret (de_var 0)))))
theorem okH_is_frac {f : Addr} {fd : FuncData} (D : Fun K "is_frac" "is_frac" s_is_frac f fd) (hpw : xc.pw = some (P, w)) {f_common : Addr} {fd_common : FuncData} (GH_common : L2H.FnH P w K mg base CX0 1 f_common fd_common ["a", "b"] (spX K xc g_common)) (m_common : mg "common" = some (.ref f_common)) (k_common : PySem.W.keepIn K (.ref f_common) = true) (b_common : Binds K fd_common ["a", "b"] []) (mm_all : mg "all" = none) (mm_bool : mg "bool" = none) (mm_int : mg "int" = none) (mm_isinstance : mg "isinstance" = none) (mm_len : mg "len" = none) (mm_tuple : mg "tuple" = none) : L2H.FnH P w K mg base CX0 2 f fd ["thing"] (spX K xc g_is_frac) :=
  def_okH D sc_is_frac (by decide) fun cdv A outer s H E p H0 as0 O0 hr hot => by
    have nd := sc_is_frac.nd
    exact (ds_cons (ds_if (dt_bool (dw_or (dt_not (dt_val (de_isi "tuple" rfl mm_isinstance mm_tuple (by decide +kernel) (de_var 0)))) (dw_or1 (dt_ne (unitsH hr) rfl (de_len2 rfl mm_len (da_cons (de_var 0) da_nil)) de_int)))) (ds_one (ds_ret de_bl)) ds_nil)
    (ds_cons (ds_if (dt_not (dt_val (de_allH hot rfl mm_all (da_cons (de_lcH (own := [("one", 1)]) hot nd (blkOk_by (N := ["thing", "one"]) (sc := defScope s_is_frac) (by decide +kernel)) (di_seqH rfl (de_var 0)) (fun _ _ _ _ _ => (dg_name 1 nd)) (fun _ _ _ _ _ => dts_nil) (fun _ _ _ _ _ => (de_and (de_isi "int" rfl mm_isinstance mm_int (by decide +kernel) (de_var 1)) (de_one (de_not (de_isi "bool" rfl mm_isinstance mm_bool (by decide +kernel) (de_var 1))))))) da_nil)))) (ds_one (ds_ret de_bl)) ds_nil)
    (ds_one (ds_ret (de_and (de_gt2 (unitsH hr) rfl (de_ix3H hr rfl hpw (de_var 0) de_int) de_int) (de_one (de_eq (unitsH hr) rfl (de_callH hot GH_common (hr.mono (by decide)) m_common k_common b_common pass0 (da_cons (de_ix3H hr rfl hpw (de_var 0) de_int) (da_cons (de_ix3H hr rfl hpw (de_var 0) de_int) da_nil))) de_int)))))))
theorem okH_is_above {f : Addr} {fd : FuncData} (D : Fun K "is_above" "is_above" s_is_above f fd) (hpw : xc.pw = some (P, w)) {f_is_frac : Addr} {fd_is_frac : FuncData} (GH_is_frac : L2H.FnH P w K mg base CX0 2 f_is_frac fd_is_frac ["thing"] (spX K xc g_is_frac)) (m_is_frac : mg "is_frac" = some (.ref f_is_frac)) (k_is_frac : PySem.W.keepIn K (.ref f_is_frac) = true) (b_is_frac : Binds K fd_is_frac ["thing"] []) (t_MOST_X : Top K mg "MOST_X" (.int 1000)) : L2H.FnH P w K mg base CX0 3 f fd ["thing"] (spX K xc g_is_above) :=
  def_okH D sc_is_above (by decide) fun cdv A outer s H E p H0 as0 O0 hr hot => by
    have nd := sc_is_above.nd
    exact (ds_one (ds_ret (de_and (de_callH hot GH_is_frac (hr.mono (by decide)) m_is_frac k_is_frac b_is_frac pass0 (da_cons (de_var 0) da_nil)) (de_and (de_gt2 (unitsH hr) rfl (de_ix3H hr rfl hpw (de_var 0) de_int) de_int) (de_and (de_le2 (unitsH hr) rfl (de_ix3H hr rfl hpw (de_var 0) de_int) (de_top t_MOST_X)) (de_one (de_le2 (unitsH hr) rfl (de_ix3H hr rfl hpw (de_var 0) de_int) (de_top t_MOST_X))))))))
theorem okH_is_told {f : Addr} {fd : FuncData} (D : Fun K "is_told" "is_told" s_is_told f fd) (hpw : xc.pw = some (P, w)) {f_is_above : Addr} {fd_is_above : FuncData} (GH_is_above : L2H.FnH P w K mg base CX0 3 f_is_above fd_is_above ["thing"] (spX K xc g_is_above)) (m_is_above : mg "is_above" = some (.ref f_is_above)) (k_is_above : PySem.W.keepIn K (.ref f_is_above) = true) (b_is_above : Binds K fd_is_above ["thing"] []) (mm_bool : mg "bool" = none) (mm_isinstance : mg "isinstance" = none) (mm_len : mg "len" = none) (mm_str : mg "str" = none) (mm_tuple : mg "tuple" = none) : L2H.FnH P w K mg base CX0 4 f fd ["told", "breakers", "parts"] (spX K xc g_is_told) :=
  def_okH D sc_is_told (by decide) fun cdv A outer s H E p H0 as0 O0 hr hot => by
    have nd := sc_is_told.nd
    exact (ds_cons (ds_if (dt_bool (dw_or (dt_not (dt_val (de_isi "tuple" rfl mm_isinstance mm_tuple (by decide +kernel) (de_var 0)))) (dw_or (dt_eq (unitsH hr) rfl (de_len2 rfl mm_len (da_cons (de_var 0) da_nil)) de_int) (dw_or1 (dt_not (dt_val (de_isi "str" rfl mm_isinstance mm_str (by decide +kernel) (de_ix3H hr rfl hpw (de_var 0) de_int)))))))) (ds_one (ds_ret de_bl)) ds_nil)
    (ds_cons (ds_set 3 nd (de_ix3H hr rfl hpw (de_var 0) de_int))
    (ds_cons (ds_if (dt_eq (unitsH hr) rfl (de_var 3) de_str) (ds_one (ds_ret (de_and (de_eq (unitsH hr) rfl (de_len2 rfl mm_len (da_cons (de_var 0) da_nil)) de_int) (de_and (de_in3H hr rfl hpw (de_ix3H hr rfl hpw (de_var 0) de_int) (de_var 1)) (de_and (de_callH hot GH_is_above (hr.mono (by decide)) m_is_above k_is_above b_is_above pass0 (da_cons (de_ix3H hr rfl hpw (de_var 0) de_int) da_nil)) (de_one (de_isi "bool" rfl mm_isinstance mm_bool (by decide +kernel) (de_ix3H hr rfl hpw (de_var 0) de_int)))))))) ds_nil)
    (ds_cons (ds_if (dt_eq (unitsH hr) rfl (de_var 3) de_str) (ds_one (ds_ret (de_and (de_eq (unitsH hr) rfl (de_len2 rfl mm_len (da_cons (de_var 0) da_nil)) de_int) (de_and (de_in3H hr rfl hpw (de_ix3H hr rfl hpw (de_var 0) de_int) (de_var 1)) (de_one (de_callH hot GH_is_above (hr.mono (by decide)) m_is_above k_is_above b_is_above pass0 (da_cons (de_ix3H hr rfl hpw (de_var 0) de_int) da_nil))))))) ds_nil)
    (ds_cons (ds_if (dt_eq (unitsH hr) rfl (de_var 3) de_str) (ds_one (ds_ret (de_and (de_eq (unitsH hr) rfl (de_len2 rfl mm_len (da_cons (de_var 0) da_nil)) de_int) (de_and (de_in3H hr rfl hpw (de_ix3H hr rfl hpw (de_var 0) de_int) (de_var 2)) (de_one (de_callH hot GH_is_above (hr.mono (by decide)) m_is_above k_is_above b_is_above pass0 (da_cons (de_ix3H hr rfl hpw (de_var 0) de_int) da_nil))))))) ds_nil)
    (ds_one (ds_ret (de_and (de_eq (unitsH hr) rfl (de_var 3) de_str) (de_and (de_eq (unitsH hr) rfl (de_len2 rfl mm_len (da_cons (de_var 0) da_nil)) de_int) (de_one (de_in3H hr rfl hpw (de_ix3H hr rfl hpw (de_var 0) de_int) (de_var 1))))))))))))
theorem okH_sign_of {f : Addr} {fd : FuncData} (D : Fun K "sign_of" "sign_of" s_sign_of f fd) (hpw : xc.pw = some (P, w)) : L2H.FnH P w K mg base CX0 1 f fd ["number"] (spX K xc g_sign_of) :=
  def_okH D sc_sign_of (by decide) fun cdv A outer s H E p H0 as0 O0 hr hot => by
    have nd := sc_sign_of.nd
    exact (ds_one (ds_ret (de_if (dt_gt2 (unitsH hr) rfl (de_var 0) de_int) de_int (de_if (dt_eq (unitsH hr) rfl (de_var 0) de_int) de_int (de_neg de_int)))))
theorem okH_compare {f : Addr} {fd : FuncData} (D : Fun K "compare" "compare" s_compare f fd) (hpw : xc.pw = some (P, w)) {f_sign_of : Addr} {fd_sign_of : FuncData} (GH_sign_of : L2H.FnH P w K mg base CX0 1 f_sign_of fd_sign_of ["number"] (spX K xc g_sign_of)) (m_sign_of : mg "sign_of" = some (.ref f_sign_of)) (k_sign_of : PySem.W.keepIn K (.ref f_sign_of) = true) (b_sign_of : Binds K fd_sign_of ["number"] []) : L2H.FnH P w K mg base CX0 2 f fd ["a", "b"] (spX K xc g_compare) :=
  def_okH D sc_compare (by decide) fun cdv A outer s H E p H0 as0 O0 hr hot => by
    have nd := sc_compare.nd
    exact (ds_one (ds_ret (de_callH hot GH_sign_of (hr.mono (by decide)) m_sign_of k_sign_of b_sign_of pass0 (da_cons (de_sub (de_mul2 rfl (de_ix3H hr rfl hpw (de_var 0) de_int) (de_ix3H hr rfl hpw (de_var 1) de_int)) (de_mul2 rfl (de_ix3H hr rfl hpw (de_var 1) de_int) (de_ix3H hr rfl hpw (de_var 0) de_int))) da_nil))))
theorem okH_is_rules {f : Addr} {fd : FuncData} (D : Fun K "is_rules" "is_rules" s_is_rules f fd) (hpw : xc.pw = some (P, w)) {f_is_frac : Addr} {fd_is_frac : FuncData} (GH_is_frac : L2H.FnH P w K mg base CX0 2 f_is_frac fd_is_frac ["thing"] (spX K xc g_is_frac)) (m_is_frac : mg "is_frac" = some (.ref f_is_frac)) (k_is_frac : PySem.W.keepIn K (.ref f_is_frac) = true) (b_is_frac : Binds K fd_is_frac ["thing"] []) {f_compare : Addr} {fd_compare : FuncData} (GH_compare : L2H.FnH P w K mg base CX0 2 f_compare fd_compare ["a", "b"] (spX K xc g_compare)) (m_compare : mg "compare" = some (.ref f_compare)) (k_compare : PySem.W.keepIn K (.ref f_compare) = true) (b_compare : Binds K fd_compare ["a", "b"] []) {f_is_whole : Addr} {fd_is_whole : FuncData} (GH_is_whole : L2H.FnH P w K mg base CX0 1 f_is_whole fd_is_whole ["thing", "least", "most"] (spX K xc g_is_whole)) (m_is_whole : mg "is_whole" = some (.ref f_is_whole)) (k_is_whole : PySem.W.keepIn K (.ref f_is_whole) = true) (b_is_whole : Binds K fd_is_whole ["thing", "least", "most"] []) (mm_isinstance : mg "isinstance" = none) (mm_len : mg "len" = none) (mm_tuple : mg "tuple" = none) (t_MOST_AGE : Top K mg "MOST_AGE" (.int 6)) (t_MOST_TICKS : Top K mg "MOST_TICKS" (.int 40)) (t_MOST_X : Top K mg "MOST_X" (.int 1000)) : L2H.FnH P w K mg base CX0 3 f fd ["rules"] (spX K xc g_is_rules) :=
  def_okH D sc_is_rules (by decide) fun cdv A outer s H E p H0 as0 O0 hr hot => by
    have nd := sc_is_rules.nd
    exact (ds_cons (ds_if (dt_bool (dw_or (dt_not (dt_val (de_isi "tuple" rfl mm_isinstance mm_tuple (by decide +kernel) (de_var 0)))) (dw_or (dt_ne (unitsH hr) rfl (de_len2 rfl mm_len (da_cons (de_var 0) da_nil)) de_int) (dw_or1 (dt_not (dt_val (de_callH hot GH_is_frac (hr.mono (by decide)) m_is_frac k_is_frac b_is_frac pass0 (da_cons (de_ix3H hr rfl hpw (de_var 0) de_int) da_nil)))))))) (ds_one (ds_ret de_bl)) ds_nil)
    (ds_cons (ds_asg (de_var 0) (dg_tupH hot rfl (dgs_cons (dg_name 1 nd) (dgs_cons (dg_name 2 nd) (dgs_cons (dg_name 3 nd) (dgs_cons (dg_name 4 nd) dgs_nil))))))
    (ds_cons (ds_if (dt_bool (dw_or (dt_gt2 (unitsH hr) rfl (de_callH hot GH_compare (hr.mono (by decide)) m_compare k_compare b_compare pass0 (da_cons (de_tup (da_cons de_int (da_cons de_int da_nil))) (da_cons (de_var 1) da_nil))) de_int) (dw_or (dt_ge2 (unitsH hr) rfl (de_callH hot GH_compare (hr.mono (by decide)) m_compare k_compare b_compare pass0 (da_cons (de_var 1) (da_cons (de_tup (da_cons de_int (da_cons de_int da_nil))) da_nil))) de_int) (dw_or1 (dt_gt2 (unitsH hr) rfl (de_ix3H hr rfl hpw (de_var 1) de_int) (de_top t_MOST_X)))))) (ds_one (ds_ret de_bl)) ds_nil)
    (ds_one (ds_ret (de_and (de_callH hot GH_is_whole (hr.mono (by decide)) m_is_whole k_is_whole b_is_whole pass0 (da_cons (de_var 3) (da_cons de_int (da_cons (de_top t_MOST_AGE) da_nil)))) (de_and (de_callH hot GH_is_whole (hr.mono (by decide)) m_is_whole k_is_whole b_is_whole pass0 (da_cons (de_var 2) (da_cons de_int (da_cons (de_var 3) da_nil)))) (de_one (de_callH hot GH_is_whole (hr.mono (by decide)) m_is_whole k_is_whole b_is_whole pass0 (da_cons (de_var 4) (da_cons de_int (da_cons (de_top t_MOST_TICKS) da_nil))))))))))))
theorem okH_check_net {f : Addr} {fd : FuncData} (D : Fun K "check_net" "check_net" s_check_net f fd) (hpw : xc.pw = some (P, w)) {f_check_lists : Addr} {fd_check_lists : FuncData} (GH_check_lists : L2H.FnH P w K mg base (L2.CX P w) 3 f_check_lists fd_check_lists ["net"] (spX K xc g_check_lists)) (m_check_lists : mg "check_lists" = some (.ref f_check_lists)) (k_check_lists : PySem.W.keepIn K (.ref f_check_lists) = true) (b_check_lists : Binds K fd_check_lists ["net"] []) {f_breakers_of : Addr} {fd_breakers_of : FuncData} (GH_breakers_of : L2H.FnH P w K mg base CX0 1 f_breakers_of fd_breakers_of ["net"] (spX K xc g_breakers_of)) (m_breakers_of : mg "breakers_of" = some (.ref f_breakers_of)) (k_breakers_of : PySem.W.keepIn K (.ref f_breakers_of) = true) (b_breakers_of : Binds K fd_breakers_of ["net"] []) {f_is_told : Addr} {fd_is_told : FuncData} (GH_is_told : L2H.FnH P w K mg base CX0 4 f_is_told fd_is_told ["told", "breakers", "parts"] (spX K xc g_is_told)) (m_is_told : mg "is_told" = some (.ref f_is_told)) (k_is_told : PySem.W.keepIn K (.ref f_is_told) = true) (b_is_told : Binds K fd_is_told ["told", "breakers", "parts"] []) {f_check : Addr} {fd_check : FuncData} (GH_check : L2H.FnH P w K mg base (L2.CX P w) 2 f_check fd_check ["is_right", "name", "why"] (spX K xc g_check)) (m_check : mg "check" = some (.ref f_check)) (k_check : PySem.W.keepIn K (.ref f_check) = true) (b_check : Binds K fd_check ["is_right", "name", "why"] []) {f_is_whole : Addr} {fd_is_whole : FuncData} (GH_is_whole : L2H.FnH P w K mg base CX0 1 f_is_whole fd_is_whole ["thing", "least", "most"] (spX K xc g_is_whole)) (m_is_whole : mg "is_whole" = some (.ref f_is_whole)) (k_is_whole : PySem.W.keepIn K (.ref f_is_whole) = true) (b_is_whole : Binds K fd_is_whole ["thing", "least", "most"] []) {f_is_rules : Addr} {fd_is_rules : FuncData} (GH_is_rules : L2H.FnH P w K mg base CX0 3 f_is_rules fd_is_rules ["rules"] (spX K xc g_is_rules)) (m_is_rules : mg "is_rules" = some (.ref f_is_rules)) (k_is_rules : PySem.W.keepIn K (.ref f_is_rules) = true) (b_is_rules : Binds K fd_is_rules ["rules"] []) (mm_all : mg "all" = none) (mm_isinstance : mg "isinstance" = none) (mm_len : mg "len" = none) (mm_tuple : mg "tuple" = none) (mm_zip : mg "zip" = none) (t_MOST_DELAY : Top K mg "MOST_DELAY" (.int 20)) : L2H.FnH P w K mg base (L2.CX P w) 5 f fd ["net"] (spX K xc g_check_net) :=
  def_okXH D sc_check_net (by decide) fun cdv A outer s H E p H0 as0 O0 hr hot => by
    have nd := sc_check_net.nd
    exact (ds_cons (ds_expr (de_callRH hot GH_check_lists (hr.mono (by decide)) m_check_lists k_check_lists b_check_lists (takes_of rfl rfl rfl rfl) (da_cons (de_var 0) da_nil)))
    (ds_cons (ds_asg (de_var 0) (dg_tupH hot rfl (dgs_cons (dg_name 1 nd) (dgs_cons (dg_name 2 nd) (dgs_cons (dg_name 3 nd) (dgs_cons (dg_name 4 nd) (dgs_cons (dg_name 5 nd) dgs_nil)))))))
    (ds_cons (ds_asg (de_tup (da_cons (de_callH hot GH_breakers_of (hr.mono (by decide)) m_breakers_of k_breakers_of b_breakers_of pass0 (da_cons (de_var 0) da_nil)) (da_cons (de_lst (da_star rfl (de_var 1) (da_star rfl (de_lcH (own := [("line", 10)]) hot nd (blkOk_by (N := ["net", "buses", "lines", "sources", "guards", "rules", "breakers", "parts", "guard", "opens", "line", "one", "other"]) (sc := defScope s_check_net) (by decide +kernel)) (di_seqH rfl (de_var 2)) (fun _ _ _ _ _ => (dg_name 10 nd)) (fun _ _ _ _ _ => dts_nil) (fun _ _ _ _ _ => (de_ix3H hr rfl hpw (de_var 10) de_int))) da_nil))) da_nil))) (dg_tupH hot rfl (dgs_cons (dg_name 6 nd) (dgs_cons (dg_name 7 nd) dgs_nil))))
    (ds_cons (ds_forH (passes_of rfl) hot (di_seqH rfl (de_var 4)) (dg_name 8 nd) (ds_cons (ds_expr (de_callRH hot GH_check (hr.mono (by decide)) m_check k_check b_check (takes_of rfl rfl rfl rfl) (da_cons (de_and (de_eq (unitsH hr) rfl (de_len2 rfl mm_len (da_cons (de_var 8) da_nil)) de_int) (de_one (de_callH hot GH_is_told (hr.mono (by decide)) m_is_told k_is_told b_is_told pass0 (da_cons (de_ix3H hr rfl hpw (de_var 8) de_int) (da_cons (de_var 6) (da_cons (de_var 7) da_nil)))))) (da_cons (de_ix3H hr rfl hpw (de_var 8) de_int) (da_cons de_str da_nil)))))
    (ds_cons (ds_expr (de_callRH hot GH_check (hr.mono (by decide)) m_check k_check b_check (takes_of rfl rfl rfl rfl) (da_cons (de_callH hot GH_is_whole (hr.mono (by decide)) m_is_whole k_is_whole b_is_whole pass0 (da_cons (de_ix3H hr rfl hpw (de_var 8) de_int) (da_cons de_int (da_cons (de_top t_MOST_DELAY) da_nil)))) (da_cons (de_ix3H hr rfl hpw (de_var 8) de_int) (da_cons de_str da_nil)))))
    (ds_cons (ds_set 9 nd (de_ix3H hr rfl hpw (de_var 8) de_int))
    (ds_cons (ds_expr (de_callRH hot GH_check (hr.mono (by decide)) m_check k_check b_check (takes_of rfl rfl rfl rfl) (da_cons (de_and (de_isi "tuple" rfl mm_isinstance mm_tuple (by decide +kernel) (de_var 9)) (de_one (de_gt2 (unitsH hr) rfl (de_len2 rfl mm_len (da_cons (de_var 9) da_nil)) de_int))) (da_cons (de_ix3H hr rfl hpw (de_var 8) de_int) (da_cons de_str da_nil)))))
    (ds_cons (ds_expr (de_callRH hot GH_check (hr.mono (by decide)) m_check k_check b_check (takes_of rfl rfl rfl rfl) (da_cons (de_allH hot rfl mm_all (da_cons (de_lcH (own := [("one", 11)]) hot nd (blkOk_by (N := ["net", "buses", "lines", "sources", "guards", "rules", "breakers", "parts", "guard", "opens", "line", "one", "other"]) (sc := defScope s_check_net) (by decide +kernel)) (di_seqH rfl (de_var 9)) (fun _ _ _ _ _ => (dg_name 11 nd)) (fun _ _ _ _ _ => dts_nil) (fun _ _ _ _ _ => (de_in3H hr rfl hpw (de_var 11) (de_var 6)))) da_nil)) (da_cons (de_ix3H hr rfl hpw (de_var 8) de_int) (da_cons de_str da_nil)))))
    (ds_one (ds_expr (de_callRH hot GH_check (hr.mono (by decide)) m_check k_check b_check (takes_of rfl rfl rfl rfl) (da_cons (de_allH hot rfl mm_all (da_cons (de_lcH (own := [("one", 11), ("other", 12)]) hot nd (blkOk_by (N := ["net", "buses", "lines", "sources", "guards", "rules", "breakers", "parts", "guard", "opens", "line", "one", "other"]) (sc := defScope s_check_net) (by decide +kernel)) (di_zipH rfl mm_zip (da_cons (de_var 9) (da_cons (de_slice rfl (de_var 9) (do_some de_int) do_none) da_nil))) (fun _ _ _ _ _ => (dg_tupH hot rfl (dgs_cons (dg_name 11 nd) (dgs_cons (dg_name 12 nd) dgs_nil)))) (fun _ _ _ _ _ => dts_nil) (fun _ _ _ _ _ => (de_lt2 (unitsH hr) rfl (de_var 11) (de_var 12)))) da_nil)) (da_cons (de_ix3H hr rfl hpw (de_var 8) de_int) (da_cons de_str da_nil))))))))))))
    (ds_one (ds_expr (de_callRH hot GH_check (hr.mono (by decide)) m_check k_check b_check (takes_of rfl rfl rfl rfl) (da_cons (de_callH hot GH_is_rules (hr.mono (by decide)) m_is_rules k_is_rules b_is_rules pass0 (da_cons (de_var 5) da_nil)) (da_cons de_non (da_cons de_str da_nil))))))))))
theorem okH_is_net {f : Addr} {fd : FuncData} (D : Fun K "is_net" "is_net" s_is_net f fd) (hpw : xc.pw = some (P, w)) {f_check_net : Addr} {fd_check_net : FuncData} (GH_check_net : L2H.FnH P w K mg base (L2.CX P w) 5 f_check_net fd_check_net ["net"] (spX K xc g_check_net)) (m_check_net : mg "check_net" = some (.ref f_check_net)) (k_check_net : PySem.W.keepIn K (.ref f_check_net) = true) (b_check_net : Binds K fd_check_net ["net"] []) {C_BadNet B_BadNet fI_BadNet : Addr} (T_BadNet : PySem.ExF.Tx_BadNet K C_BadNet B_BadNet fI_BadNet) (x_BadNet : xc.ex 2 = some (C_BadNet, (["name", "why"] : List Str))) (x_BadNet_g : mg "BadNet" = some (.ref C_BadNet)) (ct_BadNet : CatchK K xc (.ref C_BadNet) [2]) : L2H.FnH P w K mg base CX0 6 f fd ["thing"] (spX K xc g_is_net) :=
  def_okH D sc_is_net (by decide) fun cdv A outer s H E p H0 as0 O0 hr hot => by
    have nd := sc_is_net.nd
    exact (ds_cons (ds_tryH rfl rfl ⟨rfl, by decide, .inl x_BadNet_g⟩ ct_BadNet takes0 (fun W pn xe hq tk po => have hot := hot_tr hot hq; (ds_one (ds_expr (de_callRH hot GH_check_net (hr.mono (by decide)) m_check_net k_check_net b_check_net tk (da_cons (de_var 0) da_nil))))) (fun a oe cls d pn hz hf => (ds_one (ds_ret de_bl))))
    (ds_one (ds_ret de_bl)))
theorem ok_law {f : Addr} {fd : FuncData} (D : Fun K "law" "law" s_law f fd) (hpw : xc.pw = some (P, w)) {f__law_net : Addr} {fd__law_net : FuncData} (G__law_net : FnOk P w K mg base CX0 6 f__law_net fd__law_net ["_law_draw_here"] (spX K xc g__law_net)) (m__law_net : mg "_law_net" = some (.ref f__law_net)) (k__law_net : PySem.W.keepIn K (.ref f__law_net) = true) (b__law_net : Binds K fd__law_net ["_law_draw_here"] []) {f_check_net : Addr} {fd_check_net : FuncData} (G_check_net : FnOk P w K mg base (L2.CX P w) 5 f_check_net fd_check_net ["net"] (spX K xc g_check_net)) (GN_check_net : FnOk P w K mg base (L2N.CX P w) 5 f_check_net fd_check_net ["net"] (spX K xc g_check_net)) (m_check_net : mg "check_net" = some (.ref f_check_net)) (k_check_net : PySem.W.keepIn K (.ref f_check_net) = true) (b_check_net : Binds K fd_check_net ["net"] []) {f_is_net : Addr} {fd_is_net : FuncData} (G_is_net : FnOk P w K mg base CX0 6 f_is_net fd_is_net ["thing"] (spX K xc g_is_net)) (GH_is_net : L2H.FnH P w K mg base CX0 6 f_is_net fd_is_net ["thing"] (spX K xc g_is_net)) (m_is_net : mg "is_net" = some (.ref f_is_net)) (k_is_net : PySem.W.keepIn K (.ref f_is_net) = true) (b_is_net : Binds K fd_is_net ["thing"] []) {f__law_wrong : Addr} {fd__law_wrong : FuncData} (G__law_wrong : FnOk P w K mg base CX0 4 f__law_wrong fd__law_wrong ["_law_draw_here", "_law_net_here"] (spX K xc g__law_wrong)) (m__law_wrong : mg "_law_wrong" = some (.ref f__law_wrong)) (k__law_wrong : PySem.W.keepIn K (.ref f__law_wrong) = true) (b__law_wrong : Binds K fd__law_wrong ["_law_draw_here", "_law_net_here"] []) {f__law_put : Addr} {fd__law_put : FuncData} (G__law_put : FnOk P w K mg base CX0 1 f__law_put fd__law_put ["_law_net_here", "_law_at", "_law_thing"] (spX K xc g__law_put)) (m__law_put : mg "_law_put" = some (.ref f__law_put)) (k__law_put : PySem.W.keepIn K (.ref f__law_put) = true) (b__law_put : Binds K fd__law_put ["_law_net_here", "_law_at", "_law_thing"] []) {C_BadNet B_BadNet fI_BadNet : Addr} (T_BadNet : PySem.ExF.Tx_BadNet K C_BadNet B_BadNet fI_BadNet) (x_BadNet : xc.ex 2 = some (C_BadNet, (["name", "why"] : List Str))) (x_BadNet_g : mg "BadNet" = some (.ref C_BadNet)) (ct_BadNet : CatchK K xc (.ref C_BadNet) [2]) (mm_any : mg "any" = none) (mm_range : mg "range" = none) : FnOk P w K mg base CX0 7 f fd ["_law_script"] (spX K xc g_law) :=
  def_ok D sc_law (by decide) fun cdv A outer s H E H0 as0 O0 hr => by
    have nd := sc_law.nd
    exact (ds_cons (ds_setCell 1 nd (da_cons (de_slice rfl (de_var 0) do_none (do_some de_int)) (da_cons de_int (da_cons de_int da_nil))))
    (ds_cons (ds_set 2 nd (de_call G__law_net (hr.mono (by decide)) m__law_net k__law_net b__law_net pass0 (da_cons (de_var 1) da_nil)))
    (ds_cons (ds_expr (de_callR G_check_net (hr.mono (by decide)) m_check_net k_check_net b_check_net takes0 (da_cons (de_var 2) da_nil)))
    (ds_cons (ds_if (dt_bool (dw_or (dt_not (dt_val (de_call G_is_net (hr.mono (by decide)) m_is_net k_is_net b_is_net pass0 (da_cons (de_var 2) da_nil)))) (dw_or1 (dt_eq hr.units rfl (de_ix3 hr rfl hpw (de_var 2) de_int) (de_tup da_nil))))) (ds_one (ds_ret de_bl)) ds_nil)
    (ds_cons (ds_for PassesOwn.never rfl (di_range1 mm_range (da_cons de_int da_nil)) (dg_name 3 nd) (ds_cons (ds_set 5 nd (de_call G__law_wrong (hr.mono (by decide)) m__law_wrong k__law_wrong b__law_wrong pass0 (da_cons (de_var 1) (da_cons (de_var 2) da_nil))))
    (ds_one (ds_tryX rfl rfl ⟨rfl, by decide, .inl x_BadNet_g⟩ ct_BadNet (fun hd e s h => h.elim) takes0 (fun W pn xe tk po => (ds_cons (ds_expr (de_callRN GN_check_net (hr.mono (by decide)) m_check_net k_check_net b_check_net tk (da_cons (de_var 5) da_nil)))
    (ds_one (ds_ret de_bl)))) (fun a oe cls d pn hot => have hrs := L2H.roomH_mark hr (some (.ref a)); (ds_one (ds_if (dt_val (de_callH hot GH_is_net (hrs.mono (by decide)) m_is_net k_is_net b_is_net pass0 (da_cons (de_var 5) da_nil))) (ds_one (ds_ret de_bl)) ds_nil)))))))
    (ds_cons (ds_set 4 nd (de_lst (da_cons (de_tup (da_cons de_str (da_cons (de_ix3 hr rfl hpw (de_ix3 hr rfl hpw (de_var 2) de_int) de_int) (da_cons (de_ix3 hr rfl hpw (de_ix3 hr rfl hpw (de_var 2) de_int) de_int) (da_cons de_int da_nil))))) (da_cons (de_tup (da_cons de_str (da_cons (de_ix3 hr rfl hpw (de_ix3 hr rfl hpw (de_var 2) de_int) de_int) (da_cons de_str (da_cons de_int da_nil))))) (da_cons (de_tup (da_cons de_str (da_cons (de_ix3 hr rfl hpw (de_ix3 hr rfl hpw (de_var 2) de_int) de_int) (da_cons (de_ix3 hr rfl hpw (de_ix3 hr rfl hpw (de_var 2) de_int) (de_neg de_int)) (da_cons de_int da_nil))))) (da_cons (de_tup (da_cons de_str (da_cons (de_ix3 hr rfl hpw (de_ix3 hr rfl hpw (de_var 2) de_int) de_int) (da_cons (de_ix3 hr rfl hpw (de_ix3 hr rfl hpw (de_var 2) de_int) (de_neg de_int)) (da_cons de_int da_nil))))) (da_cons (de_tup (da_cons de_str (da_cons (de_ix3 hr rfl hpw (de_ix3 hr rfl hpw (de_var 2) de_int) de_int) (da_cons (de_ix3 hr rfl hpw (de_ix3 hr rfl hpw (de_var 2) de_int) (de_neg de_int)) (da_cons de_int da_nil))))) da_nil)))))))
    (ds_one (ds_ret (de_and (de_not (de_any rfl rfl mm_any (da_cons (de_lc (own := [("_law_one", 6)]) rfl nd (blkOk_by (N := ["_law_script", "_law_draw_here", "_law_net_here", "_law_turn", "_law_lines_here", "_law_bad", "_law_one"]) (sc := defScope s_law) (by decide +kernel)) (di_seq rfl (de_var 4)) (fun _ _ _ _ _ => (dg_name 6 nd)) (fun _ _ _ _ _ => dts_nil) (fun _ _ _ _ _ => (de_call G_is_net (hr.mono (by decide)) m_is_net k_is_net b_is_net pass0 (da_cons (de_call G__law_put (hr.mono (by decide)) m__law_put k__law_put b__law_put pass0 (da_cons (de_var 2) (da_cons de_int (da_cons (de_add rfl (de_ix3 hr rfl hpw (de_var 2) de_int) (de_tup (da_cons (de_var 6) da_nil))) da_nil)))) da_nil)))) da_nil))) (de_and (de_not (de_call G_is_net (hr.mono (by decide)) m_is_net k_is_net b_is_net pass0 (da_cons de_non da_nil))) (de_one (de_not (de_call G_is_net (hr.mono (by decide)) m_is_net k_is_net b_is_net pass0 (da_cons (de_tup da_nil) da_nil))))))))))))))
end
theorem exm_by {K : PySem.W.Frag} {S U : Addr} {b : Bool} (h1 : PySem.W.subIn K (.ref S) (.type "BaseException") = some true) (h2 : PySem.W.isClsIn K S = true) (h3 : PySem.W.typeIn K (.ref S) = some (.type "type")) (h4 : PySem.W.subIn K (.ref U) (.ref S) = some b) :
    PySem.W.exmOne K (.ref U) (.ref S) = some b := by
  have e1 : (PySem.W.subIn K (.ref S) (.type "BaseException") == some true) = true := by rw [h1] <;> rfl
  have e2 : ((PySem.W.clsIn K S).isSome && PySem.W.typeIn K (.ref S) == some (.type "type")) = true := by
    have h2' : (PySem.W.clsIn K S).isSome = true := h2
    rw [h2', h3] <;> rfl
  show (if (PySem.W.subIn K (.ref S) (.type "BaseException") == some true) = true then (if ((PySem.W.clsIn K S).isSome && PySem.W.typeIn K (.ref S) == some (.type "type")) = true then PySem.W.subIn K (.ref U) (.ref S) else none) else none) = some b
  rw [if_pos e1, if_pos e2]
  exact h4
theorem all_mk {l : PySem.W.OpenLaw} {w : World} {K : PySem.W.Frag} {h : Heap} {mg : Str → Option Value} {fa : Addr} (X : K.In h) (G : h.Ns mainGlobals mg) (hfa : mg "law" = some (.ref fa))
    {C_BadNet B_BadNet fI_BadNet : Addr} {nm_BadNet q_BadNet : Str} {N_BadNet : Addr} {bs_BadNet : List Value} {sn_BadNet : List Str} {sub_BadNet : List Value} {ab_BadNet : Bool} {col_BadNet : Option Bool} {dd_BadNet : Option Addr} {m0_BadNet m1_BadNet m2_BadNet m3_BadNet m5_BadNet : Option Value} {od_BadNet an_BadNet : Option Addr} {sl_BadNet : Array (Option Value)} {oc_BadNet kV_BadNet dc_BadNet pm_BadNet cd_BadNet ct_BadNet : Value}
    (aX_BadNet : PySem.W.nsIn K mainGlobals "BadNet" = some (some (.ref C_BadNet)))
    (xL_BadNet : K.lookup C_BadNet = some (excClassObj nm_BadNet q_BadNet C_BadNet N_BadNet bs_BadNet [.ref B_BadNet, .type "Exception", .type "BaseException", .type "object"] true sn_BadNet sub_BadNet ab_BadNet col_BadNet dd_BadNet m0_BadNet m1_BadNet m2_BadNet m3_BadNet m5_BadNet "Exception.__new__"))
    (xsa_BadNet : PySem.W.findIn K (.ref C_BadNet) "__setattr__" = some (some (.builtin "object.__setattr__")))
    (xga_BadNet : PySem.W.findIn K (.ref C_BadNet) "__getattribute__" = some (some (.builtin "BaseException.__getattribute__")))
    (xgg_BadNet : PySem.W.findIn K (.ref C_BadNet) "__getattr__" = some none)
    (xi_BadNet : PySem.W.findIn K (.ref C_BadNet) "__init__" = some (some (.ref fI_BadNet)))
    (xt_BadNet : PySem.W.typeIn K (.ref fI_BadNet) = some (.type "function"))
    (xl_BadNet : K.lookup fI_BadNet = some ⟨oc_BadNet, od_BadNet, .func (PySem.W.fnOf "__init__" "BadNet.__init__" (defArgs s_BadNet) (defBody s_BadNet) (defScope s_BadNet) .none kV_BadNet dc_BadNet pm_BadNet an_BadNet cd_BadNet ct_BadNet), sl_BadNet⟩)
    (xc_BadNet : PySem.W.codeIn K cd_BadNet "BadNet.__init__" = true)
    (xk_BadNet : PySem.W.keepIn K (.ref C_BadNet) = true)
    (xe_BadNet : PySem.W.subIn K (.ref C_BadNet) (.type "BaseException") = some true)
    (xy_BadNet : PySem.W.typeIn K (.ref C_BadNet) = some (.type "type"))
    (xh_BadNet : PySem.W.hasDictIn K C_BadNet = true)
    (xp_BadNet : PySem.W.isClsIn K C_BadNet = true)
    (xn0_BadNet : PySem.W.findIn K (.ref C_BadNet) "name" = some none)
    (xn1_BadNet : PySem.W.findIn K (.ref C_BadNet) "why" = some none)
    (xs_BadNet_BadNet : PySem.W.subIn K (.ref C_BadNet) (.ref C_BadNet) = some true)
    {f0 : Addr} {od0 an0 : Option Addr} {sl0 : Array (Option Value)} {oc0 kV0 dc0 pm0 cd0 ct0 : Value} (a0 : PySem.W.nsIn K mainGlobals "_law_cell_at" = some (some (.ref f0))) (l0 : K.lookup f0 = some ⟨oc0, od0, .func (PySem.W.fnOf "_law_cell_at" "_law_cell_at" (defArgs s__law_cell_at) (defBody s__law_cell_at) (defScope s__law_cell_at) .none kV0 dc0 pm0 an0 cd0 ct0), sl0⟩) (c0 : PySem.W.codeIn K cd0 "_law_cell_at" = true) (k0 : PySem.W.keepIn K (.ref f0) = true)
    {f1 : Addr} {od1 an1 : Option Addr} {sl1 : Array (Option Value)} {oc1 kV1 dc1 pm1 cd1 ct1 : Value} (a1 : PySem.W.nsIn K mainGlobals "_law_draw" = some (some (.ref f1))) (l1 : K.lookup f1 = some ⟨oc1, od1, .func (PySem.W.fnOf "_law_draw" "_law_draw" (defArgs s__law_draw) (defBody s__law_draw) (defScope s__law_draw) .none kV1 dc1 pm1 an1 cd1 ct1), sl1⟩) (c1 : PySem.W.codeIn K cd1 "_law_draw" = true) (k1 : PySem.W.keepIn K (.ref f1) = true)
    {f2 : Addr} {od2 an2 : Option Addr} {sl2 : Array (Option Value)} {oc2 kV2 dc2 pm2 cd2 ct2 : Value} (a2 : PySem.W.nsIn K mainGlobals "_law_number" = some (some (.ref f2))) (l2 : K.lookup f2 = some ⟨oc2, od2, .func (PySem.W.fnOf "_law_number" "_law_number" (defArgs s__law_number) (defBody s__law_number) (defScope s__law_number) .none kV2 dc2 pm2 an2 cd2 ct2), sl2⟩) (c2 : PySem.W.codeIn K cd2 "_law_number" = true) (k2 : PySem.W.keepIn K (.ref f2) = true)
    {f3 : Addr} {od3 an3 : Option Addr} {sl3 : Array (Option Value)} {oc3 kV3 dc3 pm3 cd3 ct3 : Value} (a3 : PySem.W.nsIn K mainGlobals "_law_next" = some (some (.ref f3))) (l3 : K.lookup f3 = some ⟨oc3, od3, .func (PySem.W.fnOf "_law_next" "_law_next" (defArgs s__law_next) (defBody s__law_next) (defScope s__law_next) .none kV3 dc3 pm3 an3 cd3 ct3), sl3⟩) (c3 : PySem.W.codeIn K cd3 "_law_next" = true) (k3 : PySem.W.keepIn K (.ref f3) = true)
    {f4 : Addr} {od4 an4 : Option Addr} {sl4 : Array (Option Value)} {oc4 kV4 dc4 pm4 cd4 ct4 : Value} (a4 : PySem.W.nsIn K mainGlobals "_law_pick" = some (some (.ref f4))) (l4 : K.lookup f4 = some ⟨oc4, od4, .func (PySem.W.fnOf "_law_pick" "_law_pick" (defArgs s__law_pick) (defBody s__law_pick) (defScope s__law_pick) .none kV4 dc4 pm4 an4 cd4 ct4), sl4⟩) (c4 : PySem.W.codeIn K cd4 "_law_pick" = true) (k4 : PySem.W.keepIn K (.ref f4) = true)
    {f5 : Addr} {od5 an5 : Option Addr} {sl5 : Array (Option Value)} {oc5 kV5 dc5 pm5 cd5 ct5 : Value} (a5 : PySem.W.nsIn K mainGlobals "_law_lines" = some (some (.ref f5))) (l5 : K.lookup f5 = some ⟨oc5, od5, .func (PySem.W.fnOf "_law_lines" "_law_lines" (defArgs s__law_lines) (defBody s__law_lines) (defScope s__law_lines) .none kV5 dc5 pm5 an5 cd5 ct5), sl5⟩) (c5 : PySem.W.codeIn K cd5 "_law_lines" = true) (k5 : PySem.W.keepIn K (.ref f5) = true)
    {f6 : Addr} {od6 an6 : Option Addr} {sl6 : Array (Option Value)} {oc6 kV6 dc6 pm6 cd6 ct6 : Value} (a6 : PySem.W.nsIn K mainGlobals "_law_here" = some (some (.ref f6))) (l6 : K.lookup f6 = some ⟨oc6, od6, .func (PySem.W.fnOf "_law_here" "_law_here" (defArgs s__law_here) (defBody s__law_here) (defScope s__law_here) .none kV6 dc6 pm6 an6 cd6 ct6), sl6⟩) (c6 : PySem.W.codeIn K cd6 "_law_here" = true) (k6 : PySem.W.keepIn K (.ref f6) = true)
    {f7 : Addr} {od7 an7 : Option Addr} {sl7 : Array (Option Value)} {oc7 kV7 dc7 pm7 cd7 ct7 : Value} (a7 : PySem.W.nsIn K mainGlobals "_law_good" = some (some (.ref f7))) (l7 : K.lookup f7 = some ⟨oc7, od7, .func (PySem.W.fnOf "_law_good" "_law_good" (defArgs s__law_good) (defBody s__law_good) (defScope s__law_good) .none kV7 dc7 pm7 an7 cd7 ct7), sl7⟩) (c7 : PySem.W.codeIn K cd7 "_law_good" = true) (k7 : PySem.W.keepIn K (.ref f7) = true)
    {f8 : Addr} {od8 an8 : Option Addr} {sl8 : Array (Option Value)} {oc8 kV8 dc8 pm8 cd8 ct8 : Value} (a8 : PySem.W.nsIn K mainGlobals "_law_looks" = some (some (.ref f8))) (l8 : K.lookup f8 = some ⟨oc8, od8, .func (PySem.W.fnOf "_law_looks" "_law_looks" (defArgs s__law_looks) (defBody s__law_looks) (defScope s__law_looks) .none kV8 dc8 pm8 an8 cd8 ct8), sl8⟩) (c8 : PySem.W.codeIn K cd8 "_law_looks" = true) (k8 : PySem.W.keepIn K (.ref f8) = true)
    {f9 : Addr} {od9 an9 : Option Addr} {sl9 : Array (Option Value)} {oc9 kV9 dc9 pm9 cd9 ct9 : Value} (a9 : PySem.W.nsIn K mainGlobals "_law_net" = some (some (.ref f9))) (l9 : K.lookup f9 = some ⟨oc9, od9, .func (PySem.W.fnOf "_law_net" "_law_net" (defArgs s__law_net) (defBody s__law_net) (defScope s__law_net) .none kV9 dc9 pm9 an9 cd9 ct9), sl9⟩) (c9 : PySem.W.codeIn K cd9 "_law_net" = true) (k9 : PySem.W.keepIn K (.ref f9) = true)
    {f10 : Addr} {od10 an10 : Option Addr} {sl10 : Array (Option Value)} {oc10 kV10 dc10 pm10 cd10 ct10 : Value} (a10 : PySem.W.nsIn K mainGlobals "check" = some (some (.ref f10))) (l10 : K.lookup f10 = some ⟨oc10, od10, .func (PySem.W.fnOf "check" "check" (defArgs s_check) (defBody s_check) (defScope s_check) .none kV10 dc10 pm10 an10 cd10 ct10), sl10⟩) (c10 : PySem.W.codeIn K cd10 "check" = true) (k10 : PySem.W.keepIn K (.ref f10) = true)
    {f11 : Addr} {od11 an11 : Option Addr} {sl11 : Array (Option Value)} {oc11 kV11 dc11 pm11 cd11 ct11 : Value} (a11 : PySem.W.nsIn K mainGlobals "is_name" = some (some (.ref f11))) (l11 : K.lookup f11 = some ⟨oc11, od11, .func (PySem.W.fnOf "is_name" "is_name" (defArgs s_is_name) (defBody s_is_name) (defScope s_is_name) .none kV11 dc11 pm11 an11 cd11 ct11), sl11⟩) (c11 : PySem.W.codeIn K cd11 "is_name" = true) (k11 : PySem.W.keepIn K (.ref f11) = true)
    {f12 : Addr} {od12 an12 : Option Addr} {sl12 : Array (Option Value)} {oc12 kV12 dc12 pm12 cd12 ct12 : Value} (a12 : PySem.W.nsIn K mainGlobals "is_whole" = some (some (.ref f12))) (l12 : K.lookup f12 = some ⟨oc12, od12, .func (PySem.W.fnOf "is_whole" "is_whole" (defArgs s_is_whole) (defBody s_is_whole) (defScope s_is_whole) .none kV12 dc12 pm12 an12 cd12 ct12), sl12⟩) (c12 : PySem.W.codeIn K cd12 "is_whole" = true) (k12 : PySem.W.keepIn K (.ref f12) = true)
    {f13 : Addr} {od13 an13 : Option Addr} {sl13 : Array (Option Value)} {oc13 kV13 dc13 pm13 cd13 ct13 : Value} (a13 : PySem.W.nsIn K mainGlobals "check_lists" = some (some (.ref f13))) (l13 : K.lookup f13 = some ⟨oc13, od13, .func (PySem.W.fnOf "check_lists" "check_lists" (defArgs s_check_lists) (defBody s_check_lists) (defScope s_check_lists) .none kV13 dc13 pm13 an13 cd13 ct13), sl13⟩) (c13 : PySem.W.codeIn K cd13 "check_lists" = true) (k13 : PySem.W.keepIn K (.ref f13) = true)
    {f14 : Addr} {od14 an14 : Option Addr} {sl14 : Array (Option Value)} {oc14 kV14 dc14 pm14 cd14 ct14 : Value} (a14 : PySem.W.nsIn K mainGlobals "breakers_of" = some (some (.ref f14))) (l14 : K.lookup f14 = some ⟨oc14, od14, .func (PySem.W.fnOf "breakers_of" "breakers_of" (defArgs s_breakers_of) (defBody s_breakers_of) (defScope s_breakers_of) .none kV14 dc14 pm14 an14 cd14 ct14), sl14⟩) (c14 : PySem.W.codeIn K cd14 "breakers_of" = true) (k14 : PySem.W.keepIn K (.ref f14) = true)
    {f15 : Addr} {od15 an15 : Option Addr} {sl15 : Array (Option Value)} {oc15 kV15 dc15 pm15 cd15 ct15 : Value} (a15 : PySem.W.nsIn K mainGlobals "common" = some (some (.ref f15))) (l15 : K.lookup f15 = some ⟨oc15, od15, .func (PySem.W.fnOf "common" "common" (defArgs s_common) (defBody s_common) (defScope s_common) .none kV15 dc15 pm15 an15 cd15 ct15), sl15⟩) (c15 : PySem.W.codeIn K cd15 "common" = true) (k15 : PySem.W.keepIn K (.ref f15) = true)
    {f16 : Addr} {od16 an16 : Option Addr} {sl16 : Array (Option Value)} {oc16 kV16 dc16 pm16 cd16 ct16 : Value} (a16 : PySem.W.nsIn K mainGlobals "is_frac" = some (some (.ref f16))) (l16 : K.lookup f16 = some ⟨oc16, od16, .func (PySem.W.fnOf "is_frac" "is_frac" (defArgs s_is_frac) (defBody s_is_frac) (defScope s_is_frac) .none kV16 dc16 pm16 an16 cd16 ct16), sl16⟩) (c16 : PySem.W.codeIn K cd16 "is_frac" = true) (k16 : PySem.W.keepIn K (.ref f16) = true)
    {f17 : Addr} {od17 an17 : Option Addr} {sl17 : Array (Option Value)} {oc17 kV17 dc17 pm17 cd17 ct17 : Value} (a17 : PySem.W.nsIn K mainGlobals "is_above" = some (some (.ref f17))) (l17 : K.lookup f17 = some ⟨oc17, od17, .func (PySem.W.fnOf "is_above" "is_above" (defArgs s_is_above) (defBody s_is_above) (defScope s_is_above) .none kV17 dc17 pm17 an17 cd17 ct17), sl17⟩) (c17 : PySem.W.codeIn K cd17 "is_above" = true) (k17 : PySem.W.keepIn K (.ref f17) = true)
    {f18 : Addr} {od18 an18 : Option Addr} {sl18 : Array (Option Value)} {oc18 kV18 dc18 pm18 cd18 ct18 : Value} (a18 : PySem.W.nsIn K mainGlobals "is_told" = some (some (.ref f18))) (l18 : K.lookup f18 = some ⟨oc18, od18, .func (PySem.W.fnOf "is_told" "is_told" (defArgs s_is_told) (defBody s_is_told) (defScope s_is_told) .none kV18 dc18 pm18 an18 cd18 ct18), sl18⟩) (c18 : PySem.W.codeIn K cd18 "is_told" = true) (k18 : PySem.W.keepIn K (.ref f18) = true)
    {f19 : Addr} {od19 an19 : Option Addr} {sl19 : Array (Option Value)} {oc19 kV19 dc19 pm19 cd19 ct19 : Value} (a19 : PySem.W.nsIn K mainGlobals "sign_of" = some (some (.ref f19))) (l19 : K.lookup f19 = some ⟨oc19, od19, .func (PySem.W.fnOf "sign_of" "sign_of" (defArgs s_sign_of) (defBody s_sign_of) (defScope s_sign_of) .none kV19 dc19 pm19 an19 cd19 ct19), sl19⟩) (c19 : PySem.W.codeIn K cd19 "sign_of" = true) (k19 : PySem.W.keepIn K (.ref f19) = true)
    {f20 : Addr} {od20 an20 : Option Addr} {sl20 : Array (Option Value)} {oc20 kV20 dc20 pm20 cd20 ct20 : Value} (a20 : PySem.W.nsIn K mainGlobals "compare" = some (some (.ref f20))) (l20 : K.lookup f20 = some ⟨oc20, od20, .func (PySem.W.fnOf "compare" "compare" (defArgs s_compare) (defBody s_compare) (defScope s_compare) .none kV20 dc20 pm20 an20 cd20 ct20), sl20⟩) (c20 : PySem.W.codeIn K cd20 "compare" = true) (k20 : PySem.W.keepIn K (.ref f20) = true)
    {f21 : Addr} {od21 an21 : Option Addr} {sl21 : Array (Option Value)} {oc21 kV21 dc21 pm21 cd21 ct21 : Value} (a21 : PySem.W.nsIn K mainGlobals "is_rules" = some (some (.ref f21))) (l21 : K.lookup f21 = some ⟨oc21, od21, .func (PySem.W.fnOf "is_rules" "is_rules" (defArgs s_is_rules) (defBody s_is_rules) (defScope s_is_rules) .none kV21 dc21 pm21 an21 cd21 ct21), sl21⟩) (c21 : PySem.W.codeIn K cd21 "is_rules" = true) (k21 : PySem.W.keepIn K (.ref f21) = true)
    {f22 : Addr} {od22 an22 : Option Addr} {sl22 : Array (Option Value)} {oc22 kV22 dc22 pm22 cd22 ct22 : Value} (a22 : PySem.W.nsIn K mainGlobals "check_net" = some (some (.ref f22))) (l22 : K.lookup f22 = some ⟨oc22, od22, .func (PySem.W.fnOf "check_net" "check_net" (defArgs s_check_net) (defBody s_check_net) (defScope s_check_net) .none kV22 dc22 pm22 an22 cd22 ct22), sl22⟩) (c22 : PySem.W.codeIn K cd22 "check_net" = true) (k22 : PySem.W.keepIn K (.ref f22) = true)
    {f23 : Addr} {od23 an23 : Option Addr} {sl23 : Array (Option Value)} {oc23 kV23 dc23 pm23 cd23 ct23 : Value} (a23 : PySem.W.nsIn K mainGlobals "is_net" = some (some (.ref f23))) (l23 : K.lookup f23 = some ⟨oc23, od23, .func (PySem.W.fnOf "is_net" "is_net" (defArgs s_is_net) (defBody s_is_net) (defScope s_is_net) .none kV23 dc23 pm23 an23 cd23 ct23), sl23⟩) (c23 : PySem.W.codeIn K cd23 "is_net" = true) (k23 : PySem.W.keepIn K (.ref f23) = true)
    {f24 : Addr} {od24 an24 : Option Addr} {sl24 : Array (Option Value)} {oc24 kV24 dc24 pm24 cd24 ct24 : Value} (a24 : PySem.W.nsIn K mainGlobals "_law_put" = some (some (.ref f24))) (l24 : K.lookup f24 = some ⟨oc24, od24, .func (PySem.W.fnOf "_law_put" "_law_put" (defArgs s__law_put) (defBody s__law_put) (defScope s__law_put) .none kV24 dc24 pm24 an24 cd24 ct24), sl24⟩) (c24 : PySem.W.codeIn K cd24 "_law_put" = true) (k24 : PySem.W.keepIn K (.ref f24) = true)
    {f25 : Addr} {od25 an25 : Option Addr} {sl25 : Array (Option Value)} {oc25 kV25 dc25 pm25 cd25 ct25 : Value} (a25 : PySem.W.nsIn K mainGlobals "_law_wrong" = some (some (.ref f25))) (l25 : K.lookup f25 = some ⟨oc25, od25, .func (PySem.W.fnOf "_law_wrong" "_law_wrong" (defArgs s__law_wrong) (defBody s__law_wrong) (defScope s__law_wrong) .none kV25 dc25 pm25 an25 cd25 ct25), sl25⟩) (c25 : PySem.W.codeIn K cd25 "_law_wrong" = true) (k25 : PySem.W.keepIn K (.ref f25) = true)
    {f26 : Addr} {od26 an26 : Option Addr} {sl26 : Array (Option Value)} {oc26 kV26 dc26 pm26 cd26 ct26 : Value} (a26 : PySem.W.nsIn K mainGlobals "law" = some (some (.ref f26))) (l26 : K.lookup f26 = some ⟨oc26, od26, .func (PySem.W.fnOf "law" "law" (defArgs s_law) (defBody s_law) (defScope s_law) .none kV26 dc26 pm26 an26 cd26 ct26), sl26⟩) (c26 : PySem.W.codeIn K cd26 "law" = true) (k26 : PySem.W.keepIn K (.ref f26) = true)
    (z_abs : PySem.W.nsIn K mainGlobals "abs" = some none)
    (z_all : PySem.W.nsIn K mainGlobals "all" = some none)
    (z_any : PySem.W.nsIn K mainGlobals "any" = some none)
    (z_bool : PySem.W.nsIn K mainGlobals "bool" = some none)
    (z_enumerate : PySem.W.nsIn K mainGlobals "enumerate" = some none)
    (z_int : PySem.W.nsIn K mainGlobals "int" = some none)
    (z_isinstance : PySem.W.nsIn K mainGlobals "isinstance" = some none)
    (z_len : PySem.W.nsIn K mainGlobals "len" = some none)
    (z_list : PySem.W.nsIn K mainGlobals "list" = some none)
    (z_range : PySem.W.nsIn K mainGlobals "range" = some none)
    (z_sorted : PySem.W.nsIn K mainGlobals "sorted" = some none)
    (z_str : PySem.W.nsIn K mainGlobals "str" = some none)
    (z_tuple : PySem.W.nsIn K mainGlobals "tuple" = some none)
    (z_zip : PySem.W.nsIn K mainGlobals "zip" = some none)
    {uLETTERSt}
    (g_LETTERS : PySem.W.nsIn K mainGlobals "LETTERS" = some (some (.str "abcdefghijklmnopqrstuvwxyz0123456789" uLETTERSt)))
    {uMOST_AGEt}
    (g_MOST_AGE : PySem.W.nsIn K mainGlobals "MOST_AGE" = some (some (.int 6 uMOST_AGEt)))
    {uMOST_BUSESt}
    (g_MOST_BUSES : PySem.W.nsIn K mainGlobals "MOST_BUSES" = some (some (.int 6 uMOST_BUSESt)))
    {uMOST_DELAYt}
    (g_MOST_DELAY : PySem.W.nsIn K mainGlobals "MOST_DELAY" = some (some (.int 20 uMOST_DELAYt)))
    {uMOST_GUARDSt}
    (g_MOST_GUARDS : PySem.W.nsIn K mainGlobals "MOST_GUARDS" = some (some (.int 16 uMOST_GUARDSt)))
    {uMOST_LINESt}
    (g_MOST_LINES : PySem.W.nsIn K mainGlobals "MOST_LINES" = some (some (.int 8 uMOST_LINESt)))
    {uMOST_SOURCESt}
    (g_MOST_SOURCES : PySem.W.nsIn K mainGlobals "MOST_SOURCES" = some (some (.int 3 uMOST_SOURCESt)))
    {uMOST_TICKSt}
    (g_MOST_TICKS : PySem.W.nsIn K mainGlobals "MOST_TICKS" = some (some (.int 40 uMOST_TICKSt)))
    {uMOST_Xt}
    (g_MOST_X : PySem.W.nsIn K mainGlobals "MOST_X" = some (some (.int 1000 uMOST_Xt)))
    {uWORDS_0t}
    {uWORDS_1t}
    {uWORDS_2t}
    {uWORDS_3t}
    {uWORDS_4t}
    {uWORDS_5t}
    {uWORDS_6t}
    {uWORDS_7t}
    {uWORDS_8t}
    {uWORDS_9t}
    {uWORDS_10t}
    {uWORDS_11t}
    {uWORDS_12t}
    {uWORDS_13t}
    {uWORDSa : Addr}
    {uWORDSod : Option Addr}
    {uWORDSn : Nat}
    {uWORDSsl : Array (Option Value)}
    (g_WORDS : PySem.W.nsIn K mainGlobals "WORDS" = some (some (.ref uWORDSa)))
    (luWORDS : K.lookup uWORDSa = some ⟨.type "tuple", uWORDSod, .seq [(.str "bus" uWORDS_0t), (.str "line" uWORDS_1t), (.str "source" uWORDS_2t), (.str "guard" uWORDS_3t), (.str "error" uWORDS_4t), (.str "breaker" uWORDS_5t), (.str "ticks" uWORDS_6t), (.str "over" uWORDS_7t), (.str "reach" uWORDS_8t), (.str "difference" uWORDS_9t), (.str "behind" uWORDS_10t), (.str "forward" uWORDS_11t), (.str "delay" uWORDS_12t), (.str "opens" uWORDS_13t)].toArray uWORDSn, uWORDSsl⟩) :
    ∃ (fd : FuncData) (xc : Xc), (∀ (s : Shared) (v : Value), BindsTo s fd ⟨[v], []⟩ [("_law_script", v)]) ∧ ∀ base : Heap, K.In base → base.Ns mainGlobals mg → FnOk l.prog w K mg base CX0 7 fa fd ["_law_script"] (spX K xc g_law) := by
  have e := hfa.symm.trans (PySem.W.mg_of X G a26)
  cases e
  refine ⟨PySem.W.fnOf "law" "law" (defArgs s_law) (defBody s_law) (defScope s_law) .none kV26 dc26 pm26 an26 cd26 ct26, (⟨fun i => if i = 2 then some (C_BadNet, ["name", "why"]) else none, fun i => none, some (l.prog, w)⟩ : Xc), fun s v => .of_eq rfl, fun base _ _ => ?_⟩
  generalize hxc : (⟨fun i => if i = 2 then some (C_BadNet, ["name", "why"]) else none, fun i => none, some (l.prog, w)⟩ : Xc) = xc
  have hpw : xc.pw = some (l.prog, w) := by rw [← hxc]
  have T_BadNet : PySem.ExF.Tx_BadNet K C_BadNet B_BadNet fI_BadNet := ⟨⟨⟨_, _, _, _, _, _, _, _, _, _, _, _, _, _, xL_BadNet⟩, xsa_BadNet, xga_BadNet, xgg_BadNet, xi_BadNet, xt_BadNet, xk_BadNet, xe_BadNet, xy_BadNet, xh_BadNet⟩, xn0_BadNet, xn1_BadNet, ⟨_, _, _, _, _, _, _, _, _, xl_BadNet, xc_BadNet⟩⟩
  have x_BadNet : xc.ex 2 = some (C_BadNet, (["name", "why"] : List Str)) := by rw [← hxc]; rfl
  have x_BadNet_g := PySem.W.mg_of X G aX_BadNet
  have ct_BadNet : CatchK K xc (.ref C_BadNet) [2] := fun id C fns h => by
    rw [← hxc] at h
    dsimp only at h
    by_cases e2 : id = 2
    · subst e2
      simp at h
      obtain ⟨rfl, _⟩ := h
      exact (exm_by xe_BadNet xp_BadNet xy_BadNet xs_BadNet_BadNet)
    rw [if_neg e2] at h
    cases h
  have t_LETTERS : Top K mg "LETTERS" (.str "abcdefghijklmnopqrstuvwxyz0123456789") := ⟨_, PySem.W.mg_of X G g_LETTERS, wr_str⟩
  have t_MOST_AGE : Top K mg "MOST_AGE" (.int 6) := ⟨_, PySem.W.mg_of X G g_MOST_AGE, wr_int⟩
  have t_MOST_BUSES : Top K mg "MOST_BUSES" (.int 6) := ⟨_, PySem.W.mg_of X G g_MOST_BUSES, wr_int⟩
  have t_MOST_DELAY : Top K mg "MOST_DELAY" (.int 20) := ⟨_, PySem.W.mg_of X G g_MOST_DELAY, wr_int⟩
  have t_MOST_GUARDS : Top K mg "MOST_GUARDS" (.int 16) := ⟨_, PySem.W.mg_of X G g_MOST_GUARDS, wr_int⟩
  have t_MOST_LINES : Top K mg "MOST_LINES" (.int 8) := ⟨_, PySem.W.mg_of X G g_MOST_LINES, wr_int⟩
  have t_MOST_SOURCES : Top K mg "MOST_SOURCES" (.int 3) := ⟨_, PySem.W.mg_of X G g_MOST_SOURCES, wr_int⟩
  have t_MOST_TICKS : Top K mg "MOST_TICKS" (.int 40) := ⟨_, PySem.W.mg_of X G g_MOST_TICKS, wr_int⟩
  have t_MOST_X : Top K mg "MOST_X" (.int 1000) := ⟨_, PySem.W.mg_of X G g_MOST_X, wr_int⟩
  have t_WORDS : Top K mg "WORDS" (.tuple [(.str "bus"), (.str "line"), (.str "source"), (.str "guard"), (.str "error"), (.str "breaker"), (.str "ticks"), (.str "over"), (.str "reach"), (.str "difference"), (.str "behind"), (.str "forward"), (.str "delay"), (.str "opens")]) := ⟨_, PySem.W.mg_of X G g_WORDS, (wr_tup luWORDS (wr_cons wr_str (wr_cons wr_str (wr_cons wr_str (wr_cons wr_str (wr_cons wr_str (wr_cons wr_str (wr_cons wr_str (wr_cons wr_str (wr_cons wr_str (wr_cons wr_str (wr_cons wr_str (wr_cons wr_str (wr_cons wr_str (wr_cons wr_str wr_nil)))))))))))))))⟩
  have D0 := fun_mk (st := s__law_cell_at) l0 c0 k0
  have m0 := PySem.W.mg_of X G a0
  have b0 := D0.binds (ps := ["_law_script", "_law_k"]) fun _ _ _ _ _ _ us hl => match us, hl with | [_, _], _ => rfl
  have D1 := fun_mk (st := s__law_draw) l1 c1 k1
  have m1 := PySem.W.mg_of X G a1
  have b1 := D1.binds (ps := ["_law_cell", "_law_k", "_law_bound"]) fun _ _ _ _ _ _ us hl => match us, hl with | [_, _, _], _ => rfl
  have D2 := fun_mk (st := s__law_number) l2 c2 k2
  have m2 := PySem.W.mg_of X G a2
  have b2 := D2.binds (ps := ["_law_cell", "_law_k", "_law_bound"]) fun _ _ _ _ _ _ us hl => match us, hl with | [_, _, _], _ => rfl
  have D3 := fun_mk (st := s__law_next) l3 c3 k3
  have m3 := PySem.W.mg_of X G a3
  have b3 := D3.binds (ps := ["_law_draw_here", "_law_bound"]) fun _ _ _ _ _ _ us hl => match us, hl with | [_, _], _ => rfl
  have D4 := fun_mk (st := s__law_pick) l4 c4 k4
  have m4 := PySem.W.mg_of X G a4
  have b4 := D4.binds (ps := ["_law_draw_here", "_law_things"]) fun _ _ _ _ _ _ us hl => match us, hl with | [_, _], _ => rfl
  have D5 := fun_mk (st := s__law_lines) l5 c5 k5
  have m5 := PySem.W.mg_of X G a5
  have b5 := D5.binds (ps := ["_law_draw_here", "_law_buses"]) fun _ _ _ _ _ _ us hl => match us, hl with | [_, _], _ => rfl
  have D6 := fun_mk (st := s__law_here) l6 c6 k6
  have m6 := PySem.W.mg_of X G a6
  have b6 := D6.binds (ps := ["_law_net_here", "_law_bus"]) fun _ _ _ _ _ _ us hl => match us, hl with | [_, _], _ => rfl
  have D7 := fun_mk (st := s__law_good) l7 c7 k7
  have m7 := PySem.W.mg_of X G a7
  have b7 := D7.binds (ps := ["_law_net_here", "_law_late"]) fun _ _ _ _ _ _ us hl => match us, hl with | [_, _], _ => rfl
  have D8 := fun_mk (st := s__law_looks) l8 c8 k8
  have m8 := PySem.W.mg_of X G a8
  have b8 := D8.binds (ps := ["_law_draw_here", "_law_net_here", "_law_breakers"]) fun _ _ _ _ _ _ us hl => match us, hl with | [_, _, _], _ => rfl
  have D9 := fun_mk (st := s__law_net) l9 c9 k9
  have m9 := PySem.W.mg_of X G a9
  have b9 := D9.binds (ps := ["_law_draw_here"]) fun _ _ _ _ _ _ us hl => match us, hl with | [_], _ => rfl
  have D10 := fun_mk (st := s_check) l10 c10 k10
  have m10 := PySem.W.mg_of X G a10
  have b10 := D10.binds (ps := ["is_right", "name", "why"]) fun _ _ _ _ _ _ us hl => match us, hl with | [_, _, _], _ => rfl
  have D11 := fun_mk (st := s_is_name) l11 c11 k11
  have m11 := PySem.W.mg_of X G a11
  have b11 := D11.binds (ps := ["thing"]) fun _ _ _ _ _ _ us hl => match us, hl with | [_], _ => rfl
  have D12 := fun_mk (st := s_is_whole) l12 c12 k12
  have m12 := PySem.W.mg_of X G a12
  have b12 := D12.binds (ps := ["thing", "least", "most"]) fun _ _ _ _ _ _ us hl => match us, hl with | [_, _, _], _ => rfl
  have D13 := fun_mk (st := s_check_lists) l13 c13 k13
  have m13 := PySem.W.mg_of X G a13
  have b13 := D13.binds (ps := ["net"]) fun _ _ _ _ _ _ us hl => match us, hl with | [_], _ => rfl
  have D14 := fun_mk (st := s_breakers_of) l14 c14 k14
  have m14 := PySem.W.mg_of X G a14
  have b14 := D14.binds (ps := ["net"]) fun _ _ _ _ _ _ us hl => match us, hl with | [_], _ => rfl
  have D15 := fun_mk (st := s_common) l15 c15 k15
  have m15 := PySem.W.mg_of X G a15
  have b15 := D15.binds (ps := ["a", "b"]) fun _ _ _ _ _ _ us hl => match us, hl with | [_, _], _ => rfl
  have D16 := fun_mk (st := s_is_frac) l16 c16 k16
  have m16 := PySem.W.mg_of X G a16
  have b16 := D16.binds (ps := ["thing"]) fun _ _ _ _ _ _ us hl => match us, hl with | [_], _ => rfl
  have D17 := fun_mk (st := s_is_above) l17 c17 k17
  have m17 := PySem.W.mg_of X G a17
  have b17 := D17.binds (ps := ["thing"]) fun _ _ _ _ _ _ us hl => match us, hl with | [_], _ => rfl
  have D18 := fun_mk (st := s_is_told) l18 c18 k18
  have m18 := PySem.W.mg_of X G a18
  have b18 := D18.binds (ps := ["told", "breakers", "parts"]) fun _ _ _ _ _ _ us hl => match us, hl with | [_, _, _], _ => rfl
  have D19 := fun_mk (st := s_sign_of) l19 c19 k19
  have m19 := PySem.W.mg_of X G a19
  have b19 := D19.binds (ps := ["number"]) fun _ _ _ _ _ _ us hl => match us, hl with | [_], _ => rfl
  have D20 := fun_mk (st := s_compare) l20 c20 k20
  have m20 := PySem.W.mg_of X G a20
  have b20 := D20.binds (ps := ["a", "b"]) fun _ _ _ _ _ _ us hl => match us, hl with | [_, _], _ => rfl
  have D21 := fun_mk (st := s_is_rules) l21 c21 k21
  have m21 := PySem.W.mg_of X G a21
  have b21 := D21.binds (ps := ["rules"]) fun _ _ _ _ _ _ us hl => match us, hl with | [_], _ => rfl
  have D22 := fun_mk (st := s_check_net) l22 c22 k22
  have m22 := PySem.W.mg_of X G a22
  have b22 := D22.binds (ps := ["net"]) fun _ _ _ _ _ _ us hl => match us, hl with | [_], _ => rfl
  have D23 := fun_mk (st := s_is_net) l23 c23 k23
  have m23 := PySem.W.mg_of X G a23
  have b23 := D23.binds (ps := ["thing"]) fun _ _ _ _ _ _ us hl => match us, hl with | [_], _ => rfl
  have D24 := fun_mk (st := s__law_put) l24 c24 k24
  have m24 := PySem.W.mg_of X G a24
  have b24 := D24.binds (ps := ["_law_net_here", "_law_at", "_law_thing"]) fun _ _ _ _ _ _ us hl => match us, hl with | [_, _, _], _ => rfl
  have D25 := fun_mk (st := s__law_wrong) l25 c25 k25
  have m25 := PySem.W.mg_of X G a25
  have b25 := D25.binds (ps := ["_law_draw_here", "_law_net_here"]) fun _ _ _ _ _ _ us hl => match us, hl with | [_, _], _ => rfl
  have D26 := fun_mk (st := s_law) l26 c26 k26
  have m26 := PySem.W.mg_of X G a26
  have mm_abs : mg "abs" = none := PySem.W.mg_none_of X G z_abs
  have mm_all : mg "all" = none := PySem.W.mg_none_of X G z_all
  have mm_any : mg "any" = none := PySem.W.mg_none_of X G z_any
  have mm_bool : mg "bool" = none := PySem.W.mg_none_of X G z_bool
  have mm_enumerate : mg "enumerate" = none := PySem.W.mg_none_of X G z_enumerate
  have mm_int : mg "int" = none := PySem.W.mg_none_of X G z_int
  have mm_isinstance : mg "isinstance" = none := PySem.W.mg_none_of X G z_isinstance
  have mm_len : mg "len" = none := PySem.W.mg_none_of X G z_len
  have mm_list : mg "list" = none := PySem.W.mg_none_of X G z_list
  have mm_range : mg "range" = none := PySem.W.mg_none_of X G z_range
  have mm_sorted : mg "sorted" = none := PySem.W.mg_none_of X G z_sorted
  have mm_str : mg "str" = none := PySem.W.mg_none_of X G z_str
  have mm_tuple : mg "tuple" = none := PySem.W.mg_none_of X G z_tuple
  have mm_zip : mg "zip" = none := PySem.W.mg_none_of X G z_zip
  have G0 := ok__law_cell_at (P := l.prog) (w := w) (base := base) (mg := mg) (xc := xc) D0 hpw mm_len
  have G1 := ok__law_draw (P := l.prog) (w := w) (base := base) (mg := mg) (xc := xc) D1 hpw mm_int
  have G2 := ok__law_number (P := l.prog) (w := w) (base := base) (mg := mg) (xc := xc) D2 hpw G1 m1 k1 b1 mm_int mm_range
  have G3 := ok__law_next (P := l.prog) (w := w) (base := base) (mg := mg) (xc := xc) D3 hpw G0 m0 k0 b0 G2 m2 k2 b2 mm_int
  have G4 := ok__law_pick (P := l.prog) (w := w) (base := base) (mg := mg) (xc := xc) D4 hpw G3 m3 k3 b3 mm_len
  have G5 := ok__law_lines (P := l.prog) (w := w) (base := base) (mg := mg) (xc := xc) D5 hpw G3 m3 k3 b3 G4 m4 k4 b4 mm_len mm_range mm_str mm_tuple
  have G6 := ok__law_here (P := l.prog) (w := w) (base := base) (mg := mg) (xc := xc) D6 hpw mm_sorted mm_tuple
  have G7 := ok__law_good (P := l.prog) (w := w) (base := base) (mg := mg) (xc := xc) D7 hpw G6 m6 k6 b6 mm_enumerate mm_list mm_range mm_sorted mm_str mm_tuple
  have G8 := ok__law_looks (P := l.prog) (w := w) (base := base) (mg := mg) (xc := xc) D8 hpw G3 m3 k3 b3 G4 m4 k4 b4 mm_list
  have G9 := ok__law_net (P := l.prog) (w := w) (base := base) (mg := mg) (xc := xc) D9 hpw G3 m3 k3 b3 G5 m5 k5 b5 G4 m4 k4 b4 G7 m7 k7 b7 G8 m8 k8 b8 mm_len mm_range mm_sorted mm_str mm_tuple
  have G10 := ok_check (P := l.prog) (w := w) (base := base) (mg := mg) (xc := xc) D10 hpw T_BadNet x_BadNet x_BadNet_g
  have G11 := ok_is_name (P := l.prog) (w := w) (base := base) (mg := mg) (xc := xc) D11 hpw mm_all mm_isinstance mm_len mm_str t_LETTERS t_WORDS
  have G12 := ok_is_whole (P := l.prog) (w := w) (base := base) (mg := mg) (xc := xc) D12 hpw mm_bool mm_int mm_isinstance
  have G13 := ok_check_lists (P := l.prog) (w := w) (base := base) (mg := mg) (xc := xc) D13 hpw G10 m10 k10 b10 G11 m11 k11 b11 G12 m12 k12 b12 mm_all mm_isinstance mm_len mm_tuple t_MOST_BUSES t_MOST_GUARDS t_MOST_LINES t_MOST_SOURCES t_MOST_X
  have G14 := ok_breakers_of (P := l.prog) (w := w) (base := base) (mg := mg) (xc := xc) D14 hpw 
  have G15 := ok_common (P := l.prog) (w := w) (base := base) (mg := mg) (xc := xc) D15 hpw mm_abs
  have G16 := ok_is_frac (P := l.prog) (w := w) (base := base) (mg := mg) (xc := xc) D16 hpw G15 m15 k15 b15 mm_all mm_bool mm_int mm_isinstance mm_len mm_tuple
  have G17 := ok_is_above (P := l.prog) (w := w) (base := base) (mg := mg) (xc := xc) D17 hpw G16 m16 k16 b16 t_MOST_X
  have G18 := ok_is_told (P := l.prog) (w := w) (base := base) (mg := mg) (xc := xc) D18 hpw G17 m17 k17 b17 mm_bool mm_isinstance mm_len mm_str mm_tuple
  have G19 := ok_sign_of (P := l.prog) (w := w) (base := base) (mg := mg) (xc := xc) D19 hpw 
  have G20 := ok_compare (P := l.prog) (w := w) (base := base) (mg := mg) (xc := xc) D20 hpw G19 m19 k19 b19
  have G21 := ok_is_rules (P := l.prog) (w := w) (base := base) (mg := mg) (xc := xc) D21 hpw G16 m16 k16 b16 G20 m20 k20 b20 G12 m12 k12 b12 mm_isinstance mm_len mm_tuple t_MOST_AGE t_MOST_TICKS t_MOST_X
  have G22 := ok_check_net (P := l.prog) (w := w) (base := base) (mg := mg) (xc := xc) D22 hpw G13 m13 k13 b13 G14 m14 k14 b14 G18 m18 k18 b18 G10 m10 k10 b10 G12 m12 k12 b12 G21 m21 k21 b21 mm_all mm_isinstance mm_len mm_tuple mm_zip t_MOST_DELAY
  have G23 := ok_is_net (P := l.prog) (w := w) (base := base) (mg := mg) (xc := xc) D23 hpw G22 m22 k22 b22 T_BadNet x_BadNet x_BadNet_g ct_BadNet
  have G24 := ok__law_put (P := l.prog) (w := w) (base := base) (mg := mg) (xc := xc) D24 hpw 
  have G25 := ok__law_wrong (P := l.prog) (w := w) (base := base) (mg := mg) (xc := xc) D25 hpw G3 m3 k3 b3 G24 m24 k24 b24 mm_len mm_list mm_range mm_str mm_tuple
  have GN10 := okN_check (P := l.prog) (w := w) (base := base) (mg := mg) (xc := xc) D10 hpw T_BadNet x_BadNet x_BadNet_g
  have GN13 := okN_check_lists (P := l.prog) (w := w) (base := base) (mg := mg) (xc := xc) D13 hpw GN10 m10 k10 b10 G11 m11 k11 b11 G12 m12 k12 b12 mm_all mm_isinstance mm_len mm_tuple t_MOST_BUSES t_MOST_GUARDS t_MOST_LINES t_MOST_SOURCES t_MOST_X
  have GN22 := okN_check_net (P := l.prog) (w := w) (base := base) (mg := mg) (xc := xc) D22 hpw GN13 m13 k13 b13 G14 m14 k14 b14 G18 m18 k18 b18 GN10 m10 k10 b10 G12 m12 k12 b12 G21 m21 k21 b21 mm_all mm_isinstance mm_len mm_tuple mm_zip t_MOST_DELAY
  have GH10 := okH_check (P := l.prog) (w := w) (base := base) (mg := mg) (xc := xc) D10 hpw T_BadNet x_BadNet x_BadNet_g
  have GH11 := okH_is_name (P := l.prog) (w := w) (base := base) (mg := mg) (xc := xc) D11 hpw mm_all mm_isinstance mm_len mm_str t_LETTERS t_WORDS
  have GH12 := okH_is_whole (P := l.prog) (w := w) (base := base) (mg := mg) (xc := xc) D12 hpw mm_bool mm_int mm_isinstance
  have GH13 := okH_check_lists (P := l.prog) (w := w) (base := base) (mg := mg) (xc := xc) D13 hpw GH10 m10 k10 b10 GH11 m11 k11 b11 GH12 m12 k12 b12 mm_all mm_isinstance mm_len mm_tuple t_MOST_BUSES t_MOST_GUARDS t_MOST_LINES t_MOST_SOURCES t_MOST_X
  have GH14 := okH_breakers_of (P := l.prog) (w := w) (base := base) (mg := mg) (xc := xc) D14 hpw 
  have GH15 := okH_common (P := l.prog) (w := w) (base := base) (mg := mg) (xc := xc) D15 hpw mm_abs
  have GH16 := okH_is_frac (P := l.prog) (w := w) (base := base) (mg := mg) (xc := xc) D16 hpw GH15 m15 k15 b15 mm_all mm_bool mm_int mm_isinstance mm_len mm_tuple
  have GH17 := okH_is_above (P := l.prog) (w := w) (base := base) (mg := mg) (xc := xc) D17 hpw GH16 m16 k16 b16 t_MOST_X
  have GH18 := okH_is_told (P := l.prog) (w := w) (base := base) (mg := mg) (xc := xc) D18 hpw GH17 m17 k17 b17 mm_bool mm_isinstance mm_len mm_str mm_tuple
  have GH19 := okH_sign_of (P := l.prog) (w := w) (base := base) (mg := mg) (xc := xc) D19 hpw 
  have GH20 := okH_compare (P := l.prog) (w := w) (base := base) (mg := mg) (xc := xc) D20 hpw GH19 m19 k19 b19
  have GH21 := okH_is_rules (P := l.prog) (w := w) (base := base) (mg := mg) (xc := xc) D21 hpw GH16 m16 k16 b16 GH20 m20 k20 b20 GH12 m12 k12 b12 mm_isinstance mm_len mm_tuple t_MOST_AGE t_MOST_TICKS t_MOST_X
  have GH22 := okH_check_net (P := l.prog) (w := w) (base := base) (mg := mg) (xc := xc) D22 hpw GH13 m13 k13 b13 GH14 m14 k14 b14 GH18 m18 k18 b18 GH10 m10 k10 b10 GH12 m12 k12 b12 GH21 m21 k21 b21 mm_all mm_isinstance mm_len mm_tuple mm_zip t_MOST_DELAY
  have GH23 := okH_is_net (P := l.prog) (w := w) (base := base) (mg := mg) (xc := xc) D23 hpw GH22 m22 k22 b22 T_BadNet x_BadNet x_BadNet_g ct_BadNet
  exact ok_law D26 hpw G9 m9 k9 b9 G22 GN22 m22 k22 b22 G23 GH23 m23 k23 b23 G25 m25 k25 b25 G24 m24 k24 b24 T_BadNet x_BadNet x_BadNet_g ct_BadNet mm_any mm_range
def spLaw (K : PySem.W.Frag) : Sp := fun vs H Q E => ∀ xc : Xc, spX K xc g_law vs H Q E
theorem all_mk2 {P : Program} {w : World} {K : PySem.W.Frag} {mg : Str → Option Value} {fa : Addr} {ps : List Str} {lv : Nat} {x : Str}
    (h : ∃ (fd : FuncData) (xc : Xc), (∀ (s : Shared) (v : Value), BindsTo s fd ⟨[v], []⟩ [(x, v)]) ∧ ∀ base : Heap, K.In base → base.Ns mainGlobals mg → FnOk P w K mg base CX0 lv fa fd ps (spX K xc g_law)) :
    ∃ fd : FuncData, (∀ (s : Shared) (v : Value), BindsTo s fd ⟨[v], []⟩ [(x, v)]) ∧ ∀ base : Heap, K.In base → base.Ns mainGlobals mg → FnOk P w K mg base CX0 lv fa fd ps (spLaw K) := by
  obtain ⟨fd, xc, h1, h2⟩ := h
  exact ⟨fd, h1, fun base a b => (h2 base a b).imp fun vs H Q E q => q xc⟩
end LW
namespace LW
open PySem DL L2
@[simp] theorem lt2_int (i j : Int) (s : Sto) : gLt2 (.int i) (.int j) s = .ok (.bool (decide (i < j))) s := rfl
@[simp] theorem gt2_int (i j : Int) (s : Sto) : gGt2 (.int i) (.int j) s = .ok (.bool (decide (j < i))) s := rfl
theorem log_small {i : Int} (h : -(2 ^ 64 : Int) < i) (h2 : i < 2 ^ 64) : i.natAbs.log2 < 64 := by
  by_cases z : i.natAbs = 0
  · rw [z]; decide
  · exact (Nat.log2_lt z).mpr (by omega)
theorem mul_ok {i j : Int} (h : -(2 ^ 64 : Int) < i) (h2 : i < 2 ^ 64) (h3 : -(2 ^ 64 : Int) < j) (h4 : j < 2 ^ 64) : cMul i j = true := by
  have a := log_small h h2
  have b := log_small h3 h4
  exact decide_eq_true (by omega)
theorem div_ok {i j : Int} (h : 0 < j) (h4 : j < 2 ^ 64) : cDiv i j = true := by
  have b := log_small (i := j) (by omega) h4
  unfold cDiv
  rw [decide_eq_true h, decide_eq_true (by omega)]; rfl
theorem mod_ok {i j : Int} (h : 0 < j) : cMod i j = true := decide_eq_true h
theorem ups_length (lo : Int) (n : Nat) : (ups lo n).length = n := by unfold ups; rw [List.length_map, List.length_range]
abbrev dst (cs : List Int) (k : Int) : Sto := [.ls [.list (cs.map PyData.int), .int 0, .int k]]
theorem at_get {ds : List Dat} {j : Nat} {d : Dat} (k : Int) (hk : k = j) (h : ds[j]? = some d) : L2.atI ds k = some d := by
  rw [hk]
  exact L2.atI_nat h
theorem cell_ok (cs : List Int) (k : Int) (s : Sto) (hk : 0 ≤ k) : ∃ v, g__law_cell_at [.list (cs.map PyData.int), .int k] s = .ok (.int v) s := by
  unfold g__law_cell_at F__law_cell_at
  by_cases h : k < cs.length
  · have hj : k.toNat < cs.length := by omega
    refine ⟨cs[k.toNat], ?_⟩
    have e : L2.atI (cs.map PyData.int) k = some (PyData.int cs[k.toNat]) := at_get (j := k.toNat) k (by omega) (by rw [List.getElem?_map, List.getElem?_eq_getElem hj]; rfl)
    simp [h, e]
  · exact ⟨0, by simp [h]⟩
def primesL : List Int := [1000003, 1000033, 1000037, 1000039, 1000081, 1000099, 1000117, 1000121, 1000133, 1000151, 1000159, 1000171, 1000183, 1000187, 1000193, 1000199]
theorem primes_at (m : Int) (h : 0 ≤ m) (h2 : m < 16) : ∃ p, L2.atI (primesL.map PyData.int) m = some (.int p) ∧ 0 < p ∧ p < 2000000 := by
  have hj : m.toNat < primesL.length := by
    show m.toNat < 16
    omega
  have all : ∀ p ∈ primesL, 0 < p ∧ p < 2000000 := by decide
  refine ⟨primesL[m.toNat], at_get (j := m.toNat) m (by omega) (by rw [List.getElem?_map, List.getElem?_eq_getElem hj]; rfl), all _ (List.getElem_mem hj)⟩
theorem draw_ok (c k b : Int) (s : Sto) (hc : -(2 ^ 60 : Int) < c) (hc2 : c < 2 ^ 60) (hk : -(2 ^ 60 : Int) < k) (hk2 : k < 2 ^ 60) (hb : 0 < b) : ∃ v, 0 ≤ v ∧ v < b ∧ g__law_draw [.int c, .int k, .int b] s = .ok (.int v) s := by
  obtain ⟨p, e, hp, hp2⟩ := primes_at (k % 16) (Int.emod_nonneg _ (by decide)) (Int.emod_lt_of_pos _ (by decide))
  have e' : L2.atI [PyData.int 1000003, PyData.int 1000033, PyData.int 1000037, PyData.int 1000039, PyData.int 1000081, PyData.int 1000099, PyData.int 1000117, PyData.int 1000121, PyData.int 1000133, PyData.int 1000151, PyData.int 1000159, PyData.int 1000171, PyData.int 1000183, PyData.int 1000187, PyData.int 1000193, PyData.int 1000199] (k % 16) = some (.int p) := e
  refine ⟨(c * 48271 + k * 69621) % p % b, Int.emod_nonneg _ (by omega), Int.emod_lt_of_pos _ hb, ?_⟩
  unfold g__law_draw F__law_draw
  simp [mul_ok (i := c) (j := 48271) (by omega) (by omega) (by decide) (by decide), mul_ok (i := k) (j := 69621) (by omega) (by omega) (by decide) (by decide), mod_ok, hp, hb, e']
theorem pow_loop : ∀ (ks : List Dat) (c k b p : Int) (n : Nat) (k0 u v : Slt) (s : Sto), 0 < p → p < 2 ^ (10 * n) → 10 * (n + ks.length) ≤ 250 →
    ∃ p' k1, 0 < p' ∧ p' < 2 ^ 250 ∧ forL (gSet 4) B1__law_number ks [.fz (.int c), .fz (.int k), .fz (.int b), .fz (.int p), k0, u, v] s = .nx [.fz (.int c), .fz (.int k), .fz (.int b), .fz (.int p'), k1, u, v] s := by
  intro ks
  induction ks with
  | nil =>
    intro c k b p n k0 u v s h1 h2 h3
    refine ⟨p, k0, h1, Int.lt_of_lt_of_le h2 ?_, by simp⟩
    have := Nat.pow_le_pow_right (n := 2) (by decide) (show 10 * n ≤ 250 by simpa using h3)
    exact_mod_cast this
  | cons d ks ih =>
    intro c k b p n k0 u v s h1 h2 h3
    have h3' : 10 * (n + 1 + ks.length) ≤ 250 := by simp at h3; omega
    have lg : p.natAbs.log2 < 250 := by
      have : p.natAbs < 2 ^ (10 * n) := by
        have h : (p.natAbs : Int) < ((2 ^ (10 * n) : Nat) : Int) := by push_cast; omega
        exact_mod_cast h
      have h2 : p.natAbs.log2 < 10 * n := (Nat.log2_lt (by omega)).mpr this
      omega
    have cm : cMul p 1009 = true := by
      have : (1009 : Int).natAbs.log2 = 9 := by decide
      exact decide_eq_true (by omega)
    have hp : p * 1009 < 2 ^ (10 * (n + 1)) := by
      have : (2 : Int) ^ (10 * (n + 1)) = 2 ^ (10 * n) * 1024 := by rw [show 10 * (n + 1) = 10 * n + 10 by omega, Int.pow_add]; rfl
      omega
    obtain ⟨p', k1, a1, a2, a3⟩ := ih c k b (p * 1009) (n + 1) (.fz d) u v s (by omega) hp h3'
    exact ⟨p', k1, a1, a2, by simp [B1__law_number, cm]; exact a3⟩
theorem number_ok (c k b : Int) (s : Sto) (hk : 0 ≤ k) (hk2 : k < 24) (hb : 0 < b) : ∃ v, 0 ≤ v ∧ v < b ∧ g__law_number [.int c, .int k, .int b] s = .ok (.int v) s := by
  have hm : k % 24 = k := Int.emod_eq_of_lt hk hk2
  have cr : cRng k = true := by unfold cRng; rw [decide_eq_true (by omega), decide_eq_true (by omega)]; rfl
  obtain ⟨p, k1, hp, hp2, e⟩ := pow_loop (ups 0 k.toNat) c k b 1 1 .un .un .un s (by decide) (by decide) (by rw [ups_length]; omega)
  have hd : cDiv (c - 1000000000000000000) p = true := by
    have : p.natAbs.log2 < 9000 := by
      have h : p.natAbs < 2 ^ 250 := by omega
      have := (Nat.log2_lt (k := 250) (by omega)).mpr h
      omega
    unfold cDiv
    rw [decide_eq_true hp, decide_eq_true this]; rfl
  have cp : cPow 10 18 = true := by decide
  have e10 : (10 : Int) ^ (18 : Int).toNat = 1000000000000000000 := by decide
  unfold g__law_number F__law_number
  by_cases hr : 0 < (c - 1000000000000000000) / p
  · refine ⟨(c - 1000000000000000000) / p % 1009 % b, Int.emod_nonneg _ (by omega), Int.emod_lt_of_pos _ hb, ?_⟩
    simp [mod_ok, hm, cr, e, cp, hd, hr, hb]
  · have g0 : 0 ≤ c % 1000003 := Int.emod_nonneg _ (by decide)
    have g1 : c % 1000003 < 1000003 := Int.emod_lt_of_pos _ (by decide)
    have k9 : 0 ≤ k % 9 := Int.emod_nonneg _ (by decide)
    have k9' : k % 9 < 9 := Int.emod_lt_of_pos _ (by decide)
    have hx : (c % 1000003 + 977 * k) * (c % 1000003 + 31 * k + 5) ≤ 2000000 * 2000000 := Int.mul_le_mul (by omega) (by omega) (by omega) (by omega)
    have hx0 : 0 ≤ (c % 1000003 + 977 * k) * (c % 1000003 + 31 * k + 5) := Int.mul_nonneg (by omega) (by omega)
    obtain ⟨v, h1, h2, h3⟩ := draw_ok ((c % 1000003 + 977 * k) * (c % 1000003 + 31 * k + 5)) (k % 9 + 1) 999983 s (by omega) (by omega) (by omega) (by omega) (by decide)
    refine ⟨v % b, Int.emod_nonneg _ (by omega), Int.emod_lt_of_pos _ hb, ?_⟩
    simp [mod_ok, hm, cr, e, cp, hd, hr, hb, h3, mul_ok (i := 977) (j := k) (by decide) (by decide) (by omega) (by omega), mul_ok (i := 31) (j := k) (by decide) (by decide) (by omega) (by omega),
      mul_ok (i := c % 1000003 + 977 * k) (j := c % 1000003 + 31 * k + 5) (by omega) (by omega) (by omega) (by omega)]
theorem next_ok (cs : List Int) (k b : Int) (hk : 0 ≤ k) (hk2 : k < 2 ^ 40) (hb : 0 < b) : ∃ v, 0 ≤ v ∧ v < b ∧ g__law_next [cel 0, .int b] (dst cs k) = .ok (.int v) (dst cs (k + 1)) := by
  have a0 : 0 ≤ (k + 1) / 12 := Int.ediv_nonneg (by omega) (by decide)
  have a1 : (k + 1) / 12 ≤ k + 1 := Int.ediv_le_self _ (by omega)
  obtain ⟨c, hc⟩ := cell_ok cs ((k + 1) / 12) (dst cs (k + 1)) a0
  have m0 : 0 ≤ (k + 1) % 12 := Int.emod_nonneg _ (by decide)
  have m1 : (k + 1) % 12 < 12 := Int.emod_lt_of_pos _ (by decide)
  obtain ⟨v, h1, h2, h3⟩ := number_ok (c + 31 * ((k + 1) / 12)) ((k + 1) % 12 + 1) b (dst cs (k + 1)) (by omega) (by omega) hb
  refine ⟨v, h1, h2, ?_⟩
  have i2 : ∀ (x y z : Dat), L2.atI [x, y, z] 2 = some z := fun _ _ _ => rfl
  have i1 : ∀ (x y z : Dat), L2.atI [x, y, z] 1 = some y := fun _ _ _ => rfl
  have i0 : ∀ (x y z : Dat), L2.atI [x, y, z] 0 = some x := fun _ _ _ => rfl
  have x2 : L2.ixN 3 2 = some 2 := rfl
  unfold g__law_next F__law_next
  unfold dst at hc h3 ⊢
  simp [cel, putC, i2, i1, i0, x2, div_ok, mod_ok, hc, h3, mul_ok (i := 31) (j := (k + 1) / 12) (by decide) (by decide) (by omega) (by omega)]
end LW
namespace LW
open PySem DL L2
structure Ln where
  nm : Str
  a : Str
  b : Str
  x : Int
structure Sr where
  nm : Str
  b : Str
  x : Int
inductive Td where
  | over (b : Str × Int) (f : Int × Int) (fw : Bool)
  | reach (b : Str × Int) (f : Int × Int)
  | behind (b : Str × Int)
  | diff (p : Str) (f : Int × Int)
structure Gd where
  nm : Str
  td : Td
  dl : Int
  op : List (Str × Int)
def Ln.d (l : Ln) : Dat := .tuple [.str l.nm, .str l.a, .str l.b, .int l.x]
def Sr.d (l : Sr) : Dat := .tuple [.str l.nm, .str l.b, .int l.x]
def brD (b : Str × Int) : Dat := .tuple [.str b.1, .int b.2]
def frD (f : Int × Int) : Dat := .tuple [.int f.1, .int f.2]
def Td.d : Td → Dat
  | .over b f fw => .tuple [.str "over", brD b, frD f, .bool fw]
  | .reach b f => .tuple [.str "reach", brD b, frD f]
  | .behind b => .tuple [.str "behind", brD b]
  | .diff p f => .tuple [.str "difference", .str p, frD f]
def Gd.d (g : Gd) : Dat := .tuple [.str g.nm, g.td.d, .int g.dl, .tuple (g.op.map brD)]
def busL (nb : Nat) : List Str := if nb = 1 then ["a"] else if nb = 2 then ["a", "b"] else ["a", "b", "c"]
def busD (nb : Nat) : Dat := .tuple ((busL nb).map PyData.str)
theorem pick_l (cs : List Int) (k : Int) (ds : List Dat) (hk : 0 ≤ k) (hk2 : k < 2 ^ 40) (h : ds ≠ []) (hl : ds.length ≤ 10000) : ∃ d ∈ ds, g__law_pick [cel 0, .list ds] (dst cs k) = .ok d (dst cs (k + 1)) := by
  have hp : 0 < ds.length := List.length_pos_iff.mpr h
  obtain ⟨v, v0, v1, e⟩ := next_ok cs k ds.length hk hk2 (by omega)
  have hj : v.toNat < ds.length := by omega
  refine ⟨ds[v.toNat], List.getElem_mem hj, ?_⟩
  have at_ : L2.atI ds v = some ds[v.toNat] := at_get (j := v.toNat) v (by omega) (List.getElem?_eq_getElem hj)
  unfold g__law_pick F__law_pick
  unfold dst at *
  simp [e, at_]
theorem pick_t (cs : List Int) (k : Int) (ds : List Dat) (hk : 0 ≤ k) (hk2 : k < 2 ^ 40) (h : ds ≠ []) (hl : ds.length ≤ 10000) : ∃ d ∈ ds, g__law_pick [cel 0, .tuple ds] (dst cs k) = .ok d (dst cs (k + 1)) := by
  have hp : 0 < ds.length := List.length_pos_iff.mpr h
  obtain ⟨v, v0, v1, e⟩ := next_ok cs k ds.length hk hk2 (by omega)
  have hj : v.toNat < ds.length := by omega
  refine ⟨ds[v.toNat], List.getElem_mem hj, ?_⟩
  have at_ : L2.atI ds v = some ds[v.toNat] := at_get (j := v.toNat) v (by omega) (List.getElem?_eq_getElem hj)
  unfold g__law_pick F__law_pick
  unfold dst at *
  simp [e, at_]
theorem pick_i (cs : List Int) (k : Int) (xs : List Int) (hk : 0 ≤ k) (hk2 : k < 2 ^ 40) (h : xs ≠ []) (hl : xs.length ≤ 10000) : ∃ x ∈ xs, g__law_pick [cel 0, .list (xs.map PyData.int)] (dst cs k) = .ok (.int x) (dst cs (k + 1)) := by
  obtain ⟨d, hd, e⟩ := pick_l cs k (xs.map PyData.int) hk hk2 (by simpa using h) (by simpa using hl)
  obtain ⟨x, hx, rfl⟩ := List.mem_map.mp hd
  exact ⟨x, hx, e⟩
def LnOk (nb : Nat) (l : Ln) : Prop := l.a ∈ busL nb ∧ l.b ∈ busL nb ∧ l.a ≠ l.b ∧ l.x ∈ ([1, 2, 5, 10, 30] : List Int)
def numS (c : Str) (i : Int) : Str := c ++ (toString i : String)
theorem str_small (i : Int) (h : 0 ≤ i) (h2 : i < 1000) (s : Sto) : gStr [.int i] s = .ok (.str (toString i : String)) s := by
  have : i.natAbs.log2 < 1920 := by
    by_cases z : i.natAbs = 0
    · rw [z]; decide
    · exact (Nat.log2_lt z).mpr (by
        have : i.natAbs < 2 ^ 10 := by omega
        exact Nat.lt_of_lt_of_le this (Nat.pow_le_pow_right (by decide) (by decide)))
  simp [this]
theorem line_step (cs : List Int) (k : Int) (hk : 0 ≤ k) (hk2 : k + 3 < 2 ^ 40) {nb : Nat} (hb : nb = 2 ∨ nb = 3) (acc : List Dat) (many : Dat) (i : Int) (hi : 0 ≤ i) (hi2 : i < 2) (ha : acc.length ≤ 10) (u v : Slt) :
    ∃ (l : Ln) (u2 v2 : Slt), LnOk nb l ∧ l.nm = numS "l" i ∧ B1__law_lines [.fz (cel 0), .fz (busD nb), .ow (.ls acc), .fz many, .fz (.int i), u, v] (dst cs k) =
      .nx [.fz (cel 0), .fz (busD nb), .ow (.ls (acc ++ [l.d])), .fz many, .fz (.int i), u2, v2] (dst cs (k + 3)) := by
  obtain ⟨v1, a0, a1, e1⟩ := next_ok cs k nb hk (by omega) (by omega)
  obtain ⟨v2, b0, b1, e2⟩ := next_ok cs (k + 1) (nb - 1) (by omega) (by omega) (by omega)
  obtain ⟨x, hx, e3⟩ := pick_i cs (k + 1 + 1) [1, 2, 5, 10, 30] (by omega) (by omega) (by simp) (by simp)
  have l1 : ("l" : Str).length = 1 := by decide
  have st : i.natAbs.log2 < 1920 := by
    rcases (by omega : i = 0 ∨ i = 1) with rfl | rfl <;> decide
  obtain ⟨z, hz, hzl⟩ : ∃ z : Str, Str.ofString i.repr = z ∧ z.length = 1 := by
    rcases (by omega : i = 0 ∨ i = 1) with rfl | rfl
    · exact ⟨_, rfl, by decide⟩
    · exact ⟨_, rfl, by decide⟩
  have hal : acc.length < 16777216 := by omega
  have k3 : k + 1 + 1 + 1 = k + 3 := by omega
  unfold dst at *
  rcases hb with rfl | rfl
  · obtain rfl : v2 = 0 := by omega
    simp at e1 e2 e3
    rcases (by omega : v1 = 0 ∨ v1 = 1) with rfl | rfl
    · refine ⟨⟨numS "l" i, "a", "b", x⟩, .fz (.int 0), .fz (.int 1), ⟨show ("a" : Str) ∈ busL 2 by decide, show ("b" : Str) ∈ busL 2 by decide, show ("a" : Str) ≠ "b" by decide, hx⟩, rfl, ?_⟩
      unfold B1__law_lines busD busL Ln.d numS
      simp [e1, e2, e3, st, mod_ok, l1, hz, hzl, hal, k3]
    · refine ⟨⟨numS "l" i, "b", "a", x⟩, .fz (.int 1), .fz (.int 0), ⟨show ("b" : Str) ∈ busL 2 by decide, show ("a" : Str) ∈ busL 2 by decide, show ("b" : Str) ≠ "a" by decide, hx⟩, rfl, ?_⟩
      unfold B1__law_lines busD busL Ln.d numS
      simp [e1, e2, e3, st, mod_ok, l1, hz, hzl, hal, k3]
  · simp at e1 e2 e3
    rcases (by omega : v1 = 0 ∨ v1 = 1 ∨ v1 = 2) with rfl | rfl | rfl <;> rcases (by omega : v2 = 0 ∨ v2 = 1) with rfl | rfl
    · refine ⟨⟨numS "l" i, "a", "b", x⟩, .fz (.int 0), .fz (.int 1), ⟨show ("a" : Str) ∈ busL 3 by decide, show ("b" : Str) ∈ busL 3 by decide, show ("a" : Str) ≠ "b" by decide, hx⟩, rfl, ?_⟩
      unfold B1__law_lines busD busL Ln.d numS
      simp [e1, e2, e3, st, mod_ok, l1, hz, hzl, hal, k3]
    · refine ⟨⟨numS "l" i, "a", "c", x⟩, .fz (.int 0), .fz (.int 2), ⟨show ("a" : Str) ∈ busL 3 by decide, show ("c" : Str) ∈ busL 3 by decide, show ("a" : Str) ≠ "c" by decide, hx⟩, rfl, ?_⟩
      unfold B1__law_lines busD busL Ln.d numS
      simp [e1, e2, e3, st, mod_ok, l1, hz, hzl, hal, k3]
    · refine ⟨⟨numS "l" i, "b", "c", x⟩, .fz (.int 1), .fz (.int 2), ⟨show ("b" : Str) ∈ busL 3 by decide, show ("c" : Str) ∈ busL 3 by decide, show ("b" : Str) ≠ "c" by decide, hx⟩, rfl, ?_⟩
      unfold B1__law_lines busD busL Ln.d numS
      simp [e1, e2, e3, st, mod_ok, l1, hz, hzl, hal, k3]
    · refine ⟨⟨numS "l" i, "b", "a", x⟩, .fz (.int 1), .fz (.int 0), ⟨show ("b" : Str) ∈ busL 3 by decide, show ("a" : Str) ∈ busL 3 by decide, show ("b" : Str) ≠ "a" by decide, hx⟩, rfl, ?_⟩
      unfold B1__law_lines busD busL Ln.d numS
      simp [e1, e2, e3, st, mod_ok, l1, hz, hzl, hal, k3]
    · refine ⟨⟨numS "l" i, "c", "a", x⟩, .fz (.int 2), .fz (.int 0), ⟨show ("c" : Str) ∈ busL 3 by decide, show ("a" : Str) ∈ busL 3 by decide, show ("c" : Str) ≠ "a" by decide, hx⟩, rfl, ?_⟩
      unfold B1__law_lines busD busL Ln.d numS
      simp [e1, e2, e3, st, mod_ok, l1, hz, hzl, hal, k3]
    · refine ⟨⟨numS "l" i, "c", "b", x⟩, .fz (.int 2), .fz (.int 1), ⟨show ("c" : Str) ∈ busL 3 by decide, show ("b" : Str) ∈ busL 3 by decide, show ("c" : Str) ≠ "b" by decide, hx⟩, rfl, ?_⟩
      unfold B1__law_lines busD busL Ln.d numS
      simp [e1, e2, e3, st, mod_ok, l1, hz, hzl, hal, k3]
end LW
namespace LW
open PySem DL L2
inductive Lns (nb : Nat) : List Ln → Prop
  | none : nb = 1 → Lns nb []
  | one (l : Ln) : nb ≠ 1 → LnOk nb l → l.nm = numS "l" 0 → Lns nb [l]
  | two (l m : Ln) : nb ≠ 1 → LnOk nb l → l.nm = numS "l" 0 → LnOk nb m → m.nm = numS "l" 1 → Lns nb [l, m]
theorem ups_0 : ups 0 0 = [] := rfl
theorem ups_1 : ups 0 1 = [.int 0] := rfl
theorem ups_2 : ups 0 2 = [.int 0, .int 1] := rfl
theorem lines_ok (cs : List Int) (k : Int) (hk : 0 ≤ k) (hk2 : k + 7 < 2 ^ 40) {nb : Nat} (hb : nb = 1 ∨ nb = 2 ∨ nb = 3) :
    ∃ ls k', k ≤ k' ∧ k' ≤ k + 7 ∧ Lns nb ls ∧ g__law_lines [cel 0, busD nb] (dst cs k) = .ok (.tuple (ls.map Ln.d)) (dst cs k') := by
  have r0 : cRng 0 = true := by decide
  have r1 : cRng 1 = true := by decide
  have r2 : cRng 2 = true := by decide
  by_cases h1 : nb = 1
  · subst h1
    refine ⟨[], k, by omega, by omega, .none rfl, ?_⟩
    unfold g__law_lines F__law_lines busD busL
    simp [ups_0, r0]
  · have hb2 : nb = 2 ∨ nb = 3 := by omega
    obtain ⟨v, v0, v1, e⟩ := next_ok cs k 2 hk (by omega) (by decide)
    obtain ⟨l, u2, w2, o1, o2, e1⟩ := line_step cs (k + 1) (by omega) (by omega) hb2 [] (.int (1 + v)) 0 (by decide) (by decide) (by decide) .un .un
    have bl : ∃ b1 b2 r, busD nb = .tuple (b1 :: b2 :: r) ∧ r.length ≤ 1 := by
      rcases hb2 with rfl | rfl
      · exact ⟨_, _, _, rfl, by decide⟩
      · exact ⟨_, _, _, rfl, by decide⟩
    obtain ⟨b1, b2, r, eb, hr⟩ := bl
    have hr2 : ((r.length : Int) + 1 + 1 > 1) := by omega
    rcases (by omega : v = 0 ∨ v = 1) with rfl | rfl
    · refine ⟨[l], k + 1 + 3, by omega, by omega, .one l h1 o1 o2, ?_⟩
      rw [eb] at e1 ⊢
      unfold dst at *
      unfold g__law_lines F__law_lines
      simp at e1
      have l0 : (1 : Int) < r.length + 1 + 1 := by omega
      simp [ups_1, r1, e, e1, l0]
    · obtain ⟨m, u3, w3, p1, p2, e2⟩ := line_step cs (k + 1 + 3) (by omega) (by omega) hb2 [l.d] (.int (1 + 1)) 1 (by decide) (by decide) (by simp) u2 w2
      refine ⟨[l, m], k + 1 + 3 + 3, by omega, by omega, .two l m h1 o1 o2 p1 p2, ?_⟩
      rw [eb] at e1 e2 ⊢
      unfold dst at *
      unfold g__law_lines F__law_lines
      simp at e1 e2
      have l0 : (1 : Int) < r.length + 1 + 1 := by omega
      simp [ups_2, r2, e, e1, e2, l0]
def SrOk (nb : Nat) (l : Sr) : Prop := l.b ∈ busL nb ∧ l.x ∈ ([1, 3, 10] : List Int)
inductive Srs (nb : Nat) : List Sr → Prop
  | one (l : Sr) : SrOk nb l → l.nm = numS "g" 0 → Srs nb [l]
  | two (l m : Sr) : SrOk nb l → l.nm = numS "g" 0 → SrOk nb m → m.nm = numS "g" 1 → Srs nb [l, m]
theorem source_step (cs : List Int) (k : Int) (hk : 0 ≤ k) (hk2 : k + 2 < 2 ^ 40) {nb : Nat} (hb : nb = 1 ∨ nb = 2 ∨ nb = 3) (e : Lcs) (i : Int) (hi : 0 ≤ i) (hi2 : i < 2) (h0 : e[0]? = some (.fz (cel 0))) (h1 : e[1]? = some (.fz (busD nb))) (h12 : e[12]? = some (.fz (.int i))) :
    ∃ l : Sr, SrOk nb l ∧ l.nm = numS "g" i ∧ E1__law_net e (dst cs k) = .ok l.d (dst cs (k + 2)) := by
  obtain ⟨d, hd, e1⟩ := pick_t cs k ((busL nb).map PyData.str) hk (by omega) (by rcases hb with rfl | rfl | rfl <;> decide) (by rcases hb with rfl | rfl | rfl <;> decide)
  obtain ⟨b, hb', rfl⟩ := List.mem_map.mp hd
  obtain ⟨x, hx, e2⟩ := pick_i cs (k + 1) [1, 3, 10] (by omega) (by omega) (by simp) (by simp)
  have l1 : ("g" : Str).length = 1 := by decide
  have st : i.natAbs.log2 < 1920 := by
    rcases (by omega : i = 0 ∨ i = 1) with rfl | rfl <;> decide
  obtain ⟨z, hz, hzl⟩ : ∃ z : Str, Str.ofString i.repr = z ∧ z.length = 1 := by
    rcases (by omega : i = 0 ∨ i = 1) with rfl | rfl
    · exact ⟨_, rfl, by decide⟩
    · exact ⟨_, rfl, by decide⟩
  have k2 : k + 1 + 1 = k + 2 := by omega
  refine ⟨⟨numS "g" i, b, x⟩, ⟨hb', hx⟩, rfl, ?_⟩
  unfold dst at *
  unfold busD at h1
  simp at e2
  unfold E1__law_net Sr.d numS
  simp [h0, h1, h12, e1, e2, st, l1, hz, hzl, k2]
end LW
namespace LW
open PySem DL L2
@[simp] theorem eq_int (i j : Int) (s : Sto) : gEq (.int i) (.int j) s = .ok (.bool (i == j)) s := by simp [gEq]
@[simp] theorem ne_int (i j : Int) (s : Sto) : gNe (.int i) (.int j) s = .ok (.bool (!(i == j))) s := by simp [gNe]
@[simp] theorem eq_str (i j : Str) (s : Sto) (hi : PyData.strOk i = true) (hj : PyData.strOk j = true) : gEq (.str i) (.str j) s = .ok (.bool (i == j)) s := by simp [hi, hj, gEq, SeqAt.shaped, PyData.canLay0, PyData.depth, PyData.eqv]
@[simp] theorem ne_str (i j : Str) (s : Sto) (hi : PyData.strOk i = true) (hj : PyData.strOk j = true) : gNe (.str i) (.str j) s = .ok (.bool (!(i == j))) s := by simp [hi, hj, gNe, SeqAt.shaped, PyData.canLay0, PyData.depth, PyData.eqv]
theorem pick_m {α : Type} (f : α → Dat) (cs : List Int) (k : Int) (xs : List α) (hk : 0 ≤ k) (hk2 : k < 2 ^ 40) (h : xs ≠ []) (hl : xs.length ≤ 10000) : ∃ x ∈ xs, g__law_pick [cel 0, .list (xs.map f)] (dst cs k) = .ok (f x) (dst cs (k + 1)) := by
  obtain ⟨d, hd, e⟩ := pick_l cs k (xs.map f) hk hk2 (by simpa using h) (by simpa using hl)
  obtain ⟨x, hx, rfl⟩ := List.mem_map.mp hd
  exact ⟨x, hx, e⟩
def brs (ls : List Ln) (ss : List Sr) : List (Str × Int) := ls.map (fun l => (l.nm, 0)) ++ ls.map (fun l => (l.nm, 1)) ++ ss.map (fun l => (l.nm, 0))
def FR : List (Int × Int) := [(1, 100), (1, 50), (1, 20), (1, 10), (1, 5), (1, 2), (2, 1), (5, 1), (20, 1), (1, 1), (4, 1), (8, 1), (1, 1000)]
inductive TdOk (nb : Nat) (ls : List Ln) (bs : List (Str × Int)) : Td → Prop
  | over (b f fw) : b ∈ bs → f ∈ FR → TdOk nb ls bs (.over b f fw)
  | reach (b f) : b ∈ bs → f ∈ FR → TdOk nb ls bs (.reach b f)
  | behind (b) : b ∈ bs → TdOk nb ls bs (.behind b)
  | diff (p f) : p ∈ busL nb ++ ls.map Ln.nm → f ∈ FR → TdOk nb ls bs (.diff p f)
def netD (nb : Nat) (ls : List Ln) (ss : List Sr) : Dat := .tuple [busD nb, .tuple (ls.map Ln.d), .tuple (ss.map Sr.d)]
theorem names_lc {e : Lcs} {s : Sto} {n : Nat} (F : FG) (hF : ∀ (d : Dat) e s, n < e.length → F d e s = .ok (e.set n (.fz d)) s) (Fe : FE) (hn : n < e.length)
    (hE : ∀ (l : Ln) e s, e[n]? = some (.fz l.d) → Fe e s = .ok (.str l.nm) s) : ∀ ls : List Ln, lcL F cYes Fe e (ls.map Ln.d) s = .ok (ls.map fun l => .str l.nm) s
  | [] => rfl
  | l :: ls => by
    have h1 := hF l.d e s hn
    have h2 := hE l (e.set n (.fz l.d)) s (by simp [hn])
    simp [h1, h2, Res.noex, names_lc F hF Fe hn hE ls]
theorem looks_ok (cs : List Int) (k : Int) (hk : 0 ≤ k) (hk2 : k + 6 < 2 ^ 40) {nb : Nat} (hb : nb = 1 ∨ nb = 2 ∨ nb = 3) {ls : List Ln} (hl : ls.length ≤ 2) (ss : List Sr) {bs : List (Str × Int)} (h1 : bs ≠ []) (h2 : bs.length ≤ 10) :
    ∃ td k', k ≤ k' ∧ k' ≤ k + 5 ∧ TdOk nb ls bs td ∧ g__law_looks [cel 0, netD nb ls ss, .list (bs.map brD)] (dst cs k) = .ok td.d (dst cs k') := by
  obtain ⟨v, v0, v1, e⟩ := next_ok cs k 6 hk (by omega) (by decide)
  obtain ⟨b, b1, e1⟩ := pick_m brD cs (k + 1) bs (by omega) (by omega) h1 (by omega)
  obtain ⟨f, f1, e2⟩ := pick_m frD cs (k + 1 + 1) [(1, 100), (1, 50), (1, 20), (1, 10), (1, 5), (1, 2), (2, 1), (5, 1), (20, 1)] (by omega) (by omega) (by decide) (by decide)
  have hf : f ∈ FR := by
    have : ∀ f ∈ ([(1, 100), (1, 50), (1, 20), (1, 10), (1, 5), (1, 2), (2, 1), (5, 1), (20, 1)] : List (Int × Int)), f ∈ FR := by decide
    exact this f f1
  by_cases c1 : v < 2
  · obtain ⟨y, y0, y1, e3⟩ := next_ok cs (k + 1 + 1 + 1) 2 (by omega) (by omega) (by decide)
    refine ⟨.over b f (y == 0), k + 1 + 1 + 1 + 1, by omega, by omega, .over _ _ _ b1 hf, ?_⟩
    unfold dst at *
    unfold g__law_looks F__law_looks
    simp [frD] at e2
    simp [e, e1, e2, e3, c1, Td.d, frD]
  · by_cases c2 : v = 2
    · obtain ⟨f', g1, e3⟩ := pick_m frD cs (k + 1 + 1 + 1) [(1, 1), (2, 1), (4, 1), (8, 1), (1, 2)] (by omega) (by omega) (by decide) (by decide)
      have hf' : f' ∈ FR := by
        have : ∀ f ∈ ([(1, 1), (2, 1), (4, 1), (8, 1), (1, 2)] : List (Int × Int)), f ∈ FR := by decide
        exact this f' g1
      refine ⟨.reach b f', k + 1 + 1 + 1 + 1, by omega, by omega, .reach _ _ b1 hf', ?_⟩
      unfold dst at *
      unfold g__law_looks F__law_looks
      subst c2
      simp [frD] at e2 e3
      simp [e, e1, e2, e3, Td.d, frD]
    · by_cases c3 : v = 3
      · refine ⟨.behind b, k + 1 + 1 + 1, by omega, by omega, .behind _ b1, ?_⟩
        unfold dst at *
        unfold g__law_looks F__law_looks
        subst c3
        simp [frD] at e2
        simp [e, e1, e2, Td.d]
      · obtain ⟨p, p1, e3⟩ := pick_m PyData.str cs (k + 1 + 1 + 1) (busL nb ++ ls.map Ln.nm) (by omega) (by omega) (by rcases hb with rfl | rfl | rfl <;> simp [busL]) (by rw [List.length_append, List.length_map]; rcases hb with rfl | rfl | rfl <;> simp [busL] <;> omega)
        obtain ⟨f', g1, e4⟩ := pick_m frD cs (k + 1 + 1 + 1 + 1) [(1, 1000), (1, 100), f] (by omega) (by omega) (by simp) (by simp)
        have hf' : f' ∈ FR := by
          simp at g1
          rcases g1 with rfl | rfl | rfl
          · decide
          · decide
          · exact hf
        refine ⟨.diff p f', k + 1 + 1 + 1 + 1 + 1, by omega, by omega, .diff _ _ p1 hf', ?_⟩
        have nlc := fun (e : Lcs) (s : Sto) (h : 6 < e.length) => names_lc (e := e) (s := s) (n := 6) (gSet 6) (fun d e s h => by simp [h]) E1__law_looks h (fun l e s h => by unfold E1__law_looks; simp [h, Ln.d]) ls
        have hll : ls.length < 16777216 := by omega
        have hl3 : nb + ls.length ≤ 16777216 := by omega
        have bl : (busL nb).length = nb := by rcases hb with rfl | rfl | rfl <;> rfl
        unfold dst at *
        unfold g__law_looks F__law_looks netD
        simp only [List.map_append, List.map_map] at e3
        have ee : List.map (PyData.str ∘ Ln.nm) ls = List.map (fun l => PyData.str l.nm) ls := rfl
        rw [ee] at e3
        simp [frD] at e2 e4
        simp [e, e1, e2, e3, e4, c1, c2, c3, Td.d, frD, busD, nlc, hll, bl, hl3]
end LW
namespace LW
open PySem DL L2
def bsC (nl ns : Nat) : List (Str × Int) := ((["l0", "l1"] : List Str).take nl).map (fun x => (x, (0 : Int))) ++ ((["l0", "l1"] : List Str).take nl).map (fun x => (x, (1 : Int))) ++ ((["g0", "g1"] : List Str).take ns).map (fun x => (x, (0 : Int)))
def subs {α : Type} : List α → List (List α)
  | [] => [[]]
  | a :: l => (subs l).map (a :: ·) ++ subs l
theorem sub_one {α : Type} {a : α} : ∀ {l : List α}, a ∈ l → [a] ∈ subs l
  | b :: l, h => by
    have e : ∀ l : List α, [] ∈ subs l := fun l => by
      induction l with
      | nil => simp [subs]
      | cons b l ih => simp [subs, ih]
    rcases List.mem_cons.mp h with rfl | h
    · simp [subs, e l]
    · simp only [subs, List.mem_append]
      exact .inr (sub_one h)
theorem subs_len {α : Type} : ∀ {l ys : List α}, ys ∈ subs l → ys.length ≤ l.length
  | [], ys, h => by simp [subs] at h; subst h; simp
  | a :: l, ys, h => by
    simp only [subs, List.mem_append, List.mem_map] at h
    rcases h with ⟨zs, h, rfl⟩ | h
    · have := subs_len h; simp; omega
    · have := subs_len h; simp; omega
def leB (a b : Str × Int) : Bool := leD (brD a) (brD b)
def sortB (ys : List (Str × Int)) : List (Str × Int) := isortL leB ys
theorem ins_map (a : Str × Int) : ∀ ys : List (Str × Int), insD leD (brD a) (ys.map brD) = (insD leB a ys).map brD
  | [] => rfl
  | b :: ys => by
    simp only [List.map_cons, insD]
    show (if leB a b then _ else _) = _
    split <;> simp [ins_map a ys]
theorem sort_map : ∀ ys : List (Str × Int), isortL leD (ys.map brD) = (sortB ys).map brD
  | [] => rfl
  | a :: ys => by
    show insD leD (brD a) (isortL leD (ys.map brD)) = _
    rw [sort_map ys, ins_map]; rfl
def good (ys : List (Str × Int)) : Bool := sortOk (ys.map brD) && SeqAt.shaped (.list (ys.map brD))
theorem good_all {nl ns : Nat} (h1 : nl = 0 ∨ nl = 1 ∨ nl = 2) (h2 : ns = 1 ∨ ns = 2) : ∀ ys ∈ subs (bsC nl ns), ys ≠ [] → sortOk (ys.map brD) = true ∧ SeqAt.shaped (.list (ys.map brD)) = true := by
  have q : (subs (bsC nl ns)).all (fun ys => ys.isEmpty || good ys) = true := by
    rcases h1 with rfl | rfl | rfl <;> rcases h2 with rfl | rfl <;> decide +kernel
  intro ys hy hn
  have := List.all_eq_true.mp q ys hy
  rw [Bool.or_eq_true] at this
  rcases this with h | h
  · simp at h; exact absurd h hn
  · simpa [good] using h
theorem filt_ok (cs : List Int) (e : Lcs) (h0 : e[0]? = some (.fz (cel 0))) (hn : 17 < e.length) : ∀ (xs : List (Str × Int)) (k : Int), 0 ≤ k → k + xs.length < 2 ^ 40 → ∃ ys ∈ subs xs, lcL (gSet 17) C5__law_net E5__law_net e (xs.map brD) (dst cs k) = .ok (ys.map brD) (dst cs (k + xs.length))
  | [], k, _, _ => ⟨[], by simp [subs], by simp⟩
  | x :: xs, k, hk, hk2 => by
    simp only [List.length_cons] at hk2
    push_cast at hk2
    obtain ⟨v, v0, v1, e1⟩ := next_ok cs k 3 hk (by omega) (by decide)
    obtain ⟨ys, hy, e2⟩ := filt_ok cs e h0 hn xs (k + 1) (by omega) (by omega)
    have hk3 : k + ((x :: xs).length : Int) = k + 1 + xs.length := by simp; omega
    have h0' : (e.set 17 (.fz (brD x)))[0]? = some (.fz (cel 0)) := by rw [List.getElem?_set_ne (by decide)]; exact h0
    have hs : (e.set 17 (.fz (brD x)))[17]? = some (.fz (brD x)) := by simp [hn]
    rw [hk3]
    by_cases hv : v = 0
    · refine ⟨x :: ys, by simp [subs, hy], ?_⟩
      subst hv
      simp [hn, C5__law_net, E5__law_net, h0', e1, e2, hs, Res.noex]
    · refine ⟨ys, by simp [subs, hy], ?_⟩
      have hv' : (v == 0) = false := by simpa using hv
      simp [hn, C5__law_net, E5__law_net, h0', e1, e2, hs, Res.noex, hv']
structure GdOk (nb nl ns : Nat) (ls : List Ln) (g : Gd) : Prop where
  td : TdOk nb ls (bsC nl ns) g.td
  d0 : 0 ≤ g.dl
  d1 : g.dl ≤ 3
  op : ∃ ys ∈ subs (bsC nl ns), ys ≠ [] ∧ g.op = sortB ys
theorem ne_nil {ys : List (Str × Int)} (s : Sto) (h : SeqAt.shaped (.list (ys.map brD)) = true) : gNe (.list (ys.map brD)) (.list []) s = .ok (.bool (!ys.isEmpty)) s := by
  have h2 : SeqAt.shaped (.list []) = true := by decide +kernel
  unfold gNe
  rw [h, h2]
  cases ys with
  | nil => rfl
  | cons y ys => simp [PyData.eqv, PyData.eqvAll]
end LW
namespace LW
open PySem DL L2
theorem set_is {i : Nat} {Fa : FE} {e : Lcs} {s s1 : Sto} {d : Dat} (h : Fa e s = .ok d s1) (hi : i < e.length) : sSet i Fa e s = .nx (e.set i (.fz d)) s1 := by simp [h, hi]
theorem sq {F K : FS} {e e1 : Lcs} {s s1 : Sto} (h : F e s = .nx e1 s1) : sSeq F K e s = K e1 s1 := by
  simp only [sSeq, h, Flo.seq]
theorem guard_step (cs : List Int) (k : Int) (hk : 0 ≤ k) (hk2 : k + 30 < 2 ^ 40) {nb nl ns : Nat} (hb : nb = 1 ∨ nb = 2 ∨ nb = 3) (hl : nl = 0 ∨ nl = 1 ∨ nl = 2) (hs : ns = 1 ∨ ns = 2) {ls : List Ln} (hll : ls.length = nl) (ss : List Sr)
    (b2 b3 b4 b5 b8 b10 b12 b13 b14 b15 b16 b17 : Slt) (acc : List Dat) (ha : acc.length ≤ 10) (i : Int) (hi : 0 ≤ i) (hi2 : i < 4) :
    ∃ (g : Gd) (k' : Int) (c13 c14 c17 : Slt), k ≤ k' ∧ k' ≤ k + 14 ∧ GdOk nb nl ns ls g ∧ g.nm = numS "q" i ∧
      B6__law_net [.fz (cel 0), .fz (busD nb), b2, b3, b4, b5, .fz (netD nb ls ss), .fz (.list ((bsC nl ns).map brD)), b8, .ow (.ls acc), b10, .fz (.int i), b12, b13, b14, b15, b16, b17] (dst cs k) =
      .nx [.fz (cel 0), .fz (busD nb), b2, b3, b4, b5, .fz (netD nb ls ss), .fz (.list ((bsC nl ns).map brD)), b8, .ow (.ls (acc ++ [g.d])), b10, .fz (.int i), b12, c13, c14, b15, b16, c17] (dst cs k') := by
  have hbl : 1 ≤ (bsC nl ns).length ∧ (bsC nl ns).length ≤ 6 := by
    rcases hl with rfl | rfl | rfl <;> rcases hs with rfl | rfl <;> decide
  have hbn : bsC nl ns ≠ [] := fun z => by rw [z] at hbl; simp at hbl
  obtain ⟨ys, hy, e1⟩ := filt_ok cs [.fz (cel 0), .fz (busD nb), b2, b3, b4, b5, .fz (netD nb ls ss), .fz (.list ((bsC nl ns).map brD)), b8, .ow (.ls acc), b10, .fz (.int i), b12, b13, b14, b15, b16, .un] rfl (by simp) (bsC nl ns) k hk (by omega)
  generalize hk1 : k + ((bsC nl ns).length : Int) = k1 at e1
  obtain ⟨td, k2, q1, q2, tok, e2⟩ := looks_ok cs k1 (by omega) (by omega) hb (ls := ls) (by omega) ss hbn (by omega)
  have ysl : ys.length ≤ 6 := by have := subs_len hy; omega
  -- the opens, one at least
  obtain ⟨zs, k3, z1, z2, z3, z4, e3⟩ : ∃ zs k3, k2 ≤ k3 ∧ k3 ≤ k2 + 1 ∧ zs ∈ subs (bsC nl ns) ∧ zs ≠ [] ∧ ∀ e : Lcs, e[0]? = some (.fz (cel 0)) → e[7]? = some (.fz (.list ((bsC nl ns).map brD))) → e[13]? = some (.fz (.list (ys.map brD))) →
      (fIf (fB (fBin gNe (fVar 13) (fLst fNil))) (fVar 13) (fLst (fCons (fCallD g__law_pick (fCons (fVar 0) (fCons (fVar 7) fNil))) fNil))) e (dst cs k2) = .ok (.list (zs.map brD)) (dst cs k3) := by
    by_cases hy0 : ys = []
    · obtain ⟨b, hb1, e4⟩ := pick_m brD cs k2 (bsC nl ns) (by omega) (by omega) hbn (by omega)
      refine ⟨[b], k2 + 1, by omega, by omega, sub_one hb1, by simp, fun e h0 h7 h13 => ?_⟩
      have nn : gNe (.list (ys.map brD)) (.list []) (dst cs k2) = .ok (.bool false) (dst cs k2) := by
        subst hy0
        refine ne_nil _ ?_
        decide +kernel
      simp [h0, h7, h13, nn, e4]
    · refine ⟨ys, k2, by omega, by omega, hy, hy0, fun e h0 h7 h13 => ?_⟩
      have nn := ne_nil (dst cs k2) (good_all hl hs ys hy hy0).2
      have : ys.isEmpty = false := by cases ys with
        | nil => exact absurd rfl hy0
        | cons => rfl
      rw [this] at nn
      simp [h13, nn]
  obtain ⟨v, v0, v1, e5⟩ := next_ok cs k3 4 (by omega) (by omega) (by decide)
  have so := (good_all hl hs zs z3 z4).1
  have st : i.natAbs.log2 < 1920 := by
    rcases (by omega : i = 0 ∨ i = 1 ∨ i = 2 ∨ i = 3) with rfl | rfl | rfl | rfl <;> decide
  obtain ⟨z, hz, hzl⟩ : ∃ z : Str, Str.ofString i.repr = z ∧ z.length = 1 := by
    rcases (by omega : i = 0 ∨ i = 1 ∨ i = 2 ∨ i = 3) with rfl | rfl | rfl | rfl
    · exact ⟨_, rfl, by decide⟩
    · exact ⟨_, rfl, by decide⟩
    · exact ⟨_, rfl, by decide⟩
    · exact ⟨_, rfl, by decide⟩
  have l1 : ("q" : Str).length = 1 := by decide
  refine ⟨⟨numS "q" i, td, v, sortB zs⟩, k3 + 1, .fz (.list (zs.map brD)), .fz td.d, b17, by omega, by omega, ⟨tok, v0, by show v ≤ 3; omega, zs, z3, z4, rfl⟩, rfl, ?_⟩
  have bl : (bsC nl ns).length < 16777216 := by omega
  have al : acc.length < 16777216 := by omega
  have sl : (sortB zs).length ≤ 16777216 ∨ True := .inr trivial
  unfold dst at *
  unfold B6__law_net
  have st1 : sSet 13 (fLc (fIter (fVar 7)) (gSet 17) C5__law_net E5__law_net [17]) [.fz (cel 0), .fz (busD nb), b2, b3, b4, b5, .fz (netD nb ls ss), .fz (.list ((bsC nl ns).map brD)), b8, .ow (.ls acc), b10, .fz (.int i), b12, b13, b14, b15, b16, b17] [.ls [.list (cs.map PyData.int), .int 0, .int k]] =
    .nx [.fz (cel 0), .fz (busD nb), b2, b3, b4, b5, .fz (netD nb ls ss), .fz (.list ((bsC nl ns).map brD)), b8, .ow (.ls acc), b10, .fz (.int i), b12, .fz (.list (ys.map brD)), b14, b15, b16, b17] [.ls [.list (cs.map PyData.int), .int 0, .int k1]] := by
    simp [wipeE, bl, e1]
  have e3' := e3 [.fz (cel 0), .fz (busD nb), b2, b3, b4, b5, .fz (netD nb ls ss), .fz (.list ((bsC nl ns).map brD)), b8, .ow (.ls acc), b10, .fz (.int i), b12, .fz (.list (ys.map brD)), .fz td.d, b15, b16, b17] rfl rfl rfl
  have st3 : sSet 13 (fIf (fB (fBin gNe (fVar 13) (fLst fNil))) (fVar 13) (fLst (fCons (fCallD g__law_pick (fCons (fVar 0) (fCons (fVar 7) fNil))) fNil))) [.fz (cel 0), .fz (busD nb), b2, b3, b4, b5, .fz (netD nb ls ss), .fz (.list ((bsC nl ns).map brD)), b8, .ow (.ls acc), b10, .fz (.int i), b12, .fz (.list (ys.map brD)), .fz td.d, b15, b16, b17] [.ls [.list (cs.map PyData.int), .int 0, .int k2]] =
    .nx [.fz (cel 0), .fz (busD nb), b2, b3, b4, b5, .fz (netD nb ls ss), .fz (.list ((bsC nl ns).map brD)), b8, .ow (.ls acc), b10, .fz (.int i), b12, .fz (.list (zs.map brD)), .fz td.d, b15, b16, b17] [.ls [.list (cs.map PyData.int), .int 0, .int k3]] := by
    exact set_is e3' (by simp)
  rw [sq st1]
  have st2 : sSet 14 (fCallD g__law_looks (fCons (fVar 0) (fCons (fVar 6) (fCons (fVar 7) fNil)))) [.fz (cel 0), .fz (busD nb), b2, b3, b4, b5, .fz (netD nb ls ss), .fz (.list ((bsC nl ns).map brD)), b8, .ow (.ls acc), b10, .fz (.int i), b12, .fz (.list (ys.map brD)), b14, b15, b16, b17] [.ls [.list (cs.map PyData.int), .int 0, .int k1]] =
    .nx [.fz (cel 0), .fz (busD nb), b2, b3, b4, b5, .fz (netD nb ls ss), .fz (.list ((bsC nl ns).map brD)), b8, .ow (.ls acc), b10, .fz (.int i), b12, .fz (.list (ys.map brD)), .fz td.d, b15, b16, b17] [.ls [.list (cs.map PyData.int), .int 0, .int k2]] := by
    simp [e2]
  rw [sq st2, sq st3]
  simp [st, hz, hzl, l1, e5, so, sort_map, al, Gd.d, numS]
end LW
namespace LW
open PySem DL L2
structure Pg where
  nm : Str
  td : Td
  lt : Bool
  op : List (Str × Int)
def Pg.g (p : Pg) (late : Int) : Gd := ⟨p.nm, p.td, if p.lt then late else 0, p.op⟩
def hereB (ls : List Ln) (ss : List Sr) (bus : Str) : List (Str × Int) :=
  sortB (ls.flatMap (fun l => (if l.a = bus then [(l.nm, (0 : Int))] else []) ++ (if l.b = bus then [(l.nm, (1 : Int))] else [])) ++ (ss.filter (fun s => s.b = bus)).map fun s => (s.nm, (0 : Int)))
def dedup : List (Str × Int) → List (Str × Int) → List (Str × Int)
  | _, [] => []
  | seen, b :: r => if b ∈ seen then dedup (seen ++ [b]) r else b :: dedup (seen ++ [b]) r
def proto (nb : Nat) (ls : List Ln) (ss : List Sr) : List Pg :=
  (match ls with
  | l :: _ => [⟨"d0", .diff l.nm (1, 1000), false, [(l.nm, 0), (l.nm, 1)]⟩, ⟨"d1", .diff l.nm (1, 1000), false, [(l.nm, 0), (l.nm, 1)]⟩,
      ⟨"f20", .behind (l.nm, 0), true, dedup [] (sortB (hereB ls ss l.a ++ [(l.nm, 1)]))⟩, ⟨"f21", .behind (l.nm, 1), true, dedup [] (sortB (hereB ls ss l.b ++ [(l.nm, 0)]))⟩]
  | [] => []) ++
  ((busL nb).zip (if ls.isEmpty then ([(("e0" : Str), ("e1" : Str))] : List (Str × Str)) else [(("e2" : Str), ("e3" : Str)), (("e4" : Str), ("e5" : Str)), (("e6" : Str), ("e7" : Str))])).flatMap fun p =>
    if hereB ls ss p.1 = [] then [] else [⟨p.2.1, .diff p.1 (1, 1000), false, hereB ls ss p.1⟩, ⟨p.2.2, .diff p.1 (1, 1000), false, hereB ls ss p.1⟩]
end LW
namespace LW
open PySem DL L2
theorem gd_0 (x x1 x2 late : Int) (s : Sto) : g__law_good [netD 1 [] [⟨"g0", "a", x1⟩], .int late] s = .ok (.list ((proto 1 [] [⟨"g0", "a", x1⟩]).map fun p => (p.g late).d)) s := by kernel_rfl
theorem gd_4 (x x1 x2 late : Int) (s : Sto) : g__law_good [netD 2 [⟨"l0", "a", "b", x⟩] [⟨"g0", "a", x1⟩, ⟨"g1", "a", x2⟩], .int late] s = .ok (.list ((proto 2 [⟨"l0", "a", "b", x⟩] [⟨"g0", "a", x1⟩, ⟨"g1", "a", x2⟩]).map fun p => (p.g late).d)) s := by kernel_rfl
theorem gd_8 (x x1 x2 late : Int) (s : Sto) : g__law_good [netD 2 [⟨"l0", "b", "a", x⟩] [⟨"g0", "a", x1⟩], .int late] s = .ok (.list ((proto 2 [⟨"l0", "b", "a", x⟩] [⟨"g0", "a", x1⟩]).map fun p => (p.g late).d)) s := by kernel_rfl
theorem gd_12 (x x1 x2 late : Int) (s : Sto) : g__law_good [netD 2 [⟨"l0", "b", "a", x⟩] [⟨"g0", "b", x1⟩, ⟨"g1", "a", x2⟩], .int late] s = .ok (.list ((proto 2 [⟨"l0", "b", "a", x⟩] [⟨"g0", "b", x1⟩, ⟨"g1", "a", x2⟩]).map fun p => (p.g late).d)) s := by kernel_rfl
theorem gd_16 (x x1 x2 late : Int) (s : Sto) : g__law_good [netD 3 [⟨"l0", "a", "b", x⟩] [⟨"g0", "c", x1⟩], .int late] s = .ok (.list ((proto 3 [⟨"l0", "a", "b", x⟩] [⟨"g0", "c", x1⟩]).map fun p => (p.g late).d)) s := by kernel_rfl
theorem gd_20 (x x1 x2 late : Int) (s : Sto) : g__law_good [netD 3 [⟨"l0", "a", "b", x⟩] [⟨"g0", "b", x1⟩, ⟨"g1", "a", x2⟩], .int late] s = .ok (.list ((proto 3 [⟨"l0", "a", "b", x⟩] [⟨"g0", "b", x1⟩, ⟨"g1", "a", x2⟩]).map fun p => (p.g late).d)) s := by kernel_rfl
theorem gd_24 (x x1 x2 late : Int) (s : Sto) : g__law_good [netD 3 [⟨"l0", "a", "b", x⟩] [⟨"g0", "c", x1⟩, ⟨"g1", "b", x2⟩], .int late] s = .ok (.list ((proto 3 [⟨"l0", "a", "b", x⟩] [⟨"g0", "c", x1⟩, ⟨"g1", "b", x2⟩]).map fun p => (p.g late).d)) s := by kernel_rfl
theorem gd_28 (x x1 x2 late : Int) (s : Sto) : g__law_good [netD 3 [⟨"l0", "a", "c", x⟩] [⟨"g0", "c", x1⟩], .int late] s = .ok (.list ((proto 3 [⟨"l0", "a", "c", x⟩] [⟨"g0", "c", x1⟩]).map fun p => (p.g late).d)) s := by kernel_rfl
theorem gd_32 (x x1 x2 late : Int) (s : Sto) : g__law_good [netD 3 [⟨"l0", "a", "c", x⟩] [⟨"g0", "b", x1⟩, ⟨"g1", "a", x2⟩], .int late] s = .ok (.list ((proto 3 [⟨"l0", "a", "c", x⟩] [⟨"g0", "b", x1⟩, ⟨"g1", "a", x2⟩]).map fun p => (p.g late).d)) s := by kernel_rfl
theorem gd_36 (x x1 x2 late : Int) (s : Sto) : g__law_good [netD 3 [⟨"l0", "a", "c", x⟩] [⟨"g0", "c", x1⟩, ⟨"g1", "b", x2⟩], .int late] s = .ok (.list ((proto 3 [⟨"l0", "a", "c", x⟩] [⟨"g0", "c", x1⟩, ⟨"g1", "b", x2⟩]).map fun p => (p.g late).d)) s := by kernel_rfl
theorem gd_40 (x x1 x2 late : Int) (s : Sto) : g__law_good [netD 3 [⟨"l0", "b", "a", x⟩] [⟨"g0", "c", x1⟩], .int late] s = .ok (.list ((proto 3 [⟨"l0", "b", "a", x⟩] [⟨"g0", "c", x1⟩]).map fun p => (p.g late).d)) s := by kernel_rfl
theorem gd_44 (x x1 x2 late : Int) (s : Sto) : g__law_good [netD 3 [⟨"l0", "b", "a", x⟩] [⟨"g0", "b", x1⟩, ⟨"g1", "a", x2⟩], .int late] s = .ok (.list ((proto 3 [⟨"l0", "b", "a", x⟩] [⟨"g0", "b", x1⟩, ⟨"g1", "a", x2⟩]).map fun p => (p.g late).d)) s := by kernel_rfl
theorem gd_48 (x x1 x2 late : Int) (s : Sto) : g__law_good [netD 3 [⟨"l0", "b", "a", x⟩] [⟨"g0", "c", x1⟩, ⟨"g1", "b", x2⟩], .int late] s = .ok (.list ((proto 3 [⟨"l0", "b", "a", x⟩] [⟨"g0", "c", x1⟩, ⟨"g1", "b", x2⟩]).map fun p => (p.g late).d)) s := by kernel_rfl
theorem gd_52 (x x1 x2 late : Int) (s : Sto) : g__law_good [netD 3 [⟨"l0", "b", "c", x⟩] [⟨"g0", "c", x1⟩], .int late] s = .ok (.list ((proto 3 [⟨"l0", "b", "c", x⟩] [⟨"g0", "c", x1⟩]).map fun p => (p.g late).d)) s := by kernel_rfl
theorem gd_56 (x x1 x2 late : Int) (s : Sto) : g__law_good [netD 3 [⟨"l0", "b", "c", x⟩] [⟨"g0", "b", x1⟩, ⟨"g1", "a", x2⟩], .int late] s = .ok (.list ((proto 3 [⟨"l0", "b", "c", x⟩] [⟨"g0", "b", x1⟩, ⟨"g1", "a", x2⟩]).map fun p => (p.g late).d)) s := by kernel_rfl
theorem gd_60 (x x1 x2 late : Int) (s : Sto) : g__law_good [netD 3 [⟨"l0", "b", "c", x⟩] [⟨"g0", "c", x1⟩, ⟨"g1", "b", x2⟩], .int late] s = .ok (.list ((proto 3 [⟨"l0", "b", "c", x⟩] [⟨"g0", "c", x1⟩, ⟨"g1", "b", x2⟩]).map fun p => (p.g late).d)) s := by kernel_rfl
theorem gd_64 (x x1 x2 late : Int) (s : Sto) : g__law_good [netD 3 [⟨"l0", "c", "a", x⟩] [⟨"g0", "c", x1⟩], .int late] s = .ok (.list ((proto 3 [⟨"l0", "c", "a", x⟩] [⟨"g0", "c", x1⟩]).map fun p => (p.g late).d)) s := by kernel_rfl
theorem gd_68 (x x1 x2 late : Int) (s : Sto) : g__law_good [netD 3 [⟨"l0", "c", "a", x⟩] [⟨"g0", "b", x1⟩, ⟨"g1", "a", x2⟩], .int late] s = .ok (.list ((proto 3 [⟨"l0", "c", "a", x⟩] [⟨"g0", "b", x1⟩, ⟨"g1", "a", x2⟩]).map fun p => (p.g late).d)) s := by kernel_rfl
theorem gd_72 (x x1 x2 late : Int) (s : Sto) : g__law_good [netD 3 [⟨"l0", "c", "a", x⟩] [⟨"g0", "c", x1⟩, ⟨"g1", "b", x2⟩], .int late] s = .ok (.list ((proto 3 [⟨"l0", "c", "a", x⟩] [⟨"g0", "c", x1⟩, ⟨"g1", "b", x2⟩]).map fun p => (p.g late).d)) s := by kernel_rfl
theorem gd_76 (x x1 x2 late : Int) (s : Sto) : g__law_good [netD 3 [⟨"l0", "c", "b", x⟩] [⟨"g0", "c", x1⟩], .int late] s = .ok (.list ((proto 3 [⟨"l0", "c", "b", x⟩] [⟨"g0", "c", x1⟩]).map fun p => (p.g late).d)) s := by kernel_rfl
theorem gd_80 (x x1 x2 late : Int) (s : Sto) : g__law_good [netD 3 [⟨"l0", "c", "b", x⟩] [⟨"g0", "b", x1⟩, ⟨"g1", "a", x2⟩], .int late] s = .ok (.list ((proto 3 [⟨"l0", "c", "b", x⟩] [⟨"g0", "b", x1⟩, ⟨"g1", "a", x2⟩]).map fun p => (p.g late).d)) s := by kernel_rfl
theorem gd_84 (x x1 x2 late : Int) (s : Sto) : g__law_good [netD 3 [⟨"l0", "c", "b", x⟩] [⟨"g0", "c", x1⟩, ⟨"g1", "b", x2⟩], .int late] s = .ok (.list ((proto 3 [⟨"l0", "c", "b", x⟩] [⟨"g0", "c", x1⟩, ⟨"g1", "b", x2⟩]).map fun p => (p.g late).d)) s := by kernel_rfl
end LW
namespace LW
open PySem DL L2
theorem gd_1 (x x1 x2 late : Int) (s : Sto) : g__law_good [netD 1 [] [⟨"g0", "a", x1⟩, ⟨"g1", "a", x2⟩], .int late] s = .ok (.list ((proto 1 [] [⟨"g0", "a", x1⟩, ⟨"g1", "a", x2⟩]).map fun p => (p.g late).d)) s := by kernel_rfl
theorem gd_5 (x x1 x2 late : Int) (s : Sto) : g__law_good [netD 2 [⟨"l0", "a", "b", x⟩] [⟨"g0", "a", x1⟩, ⟨"g1", "b", x2⟩], .int late] s = .ok (.list ((proto 2 [⟨"l0", "a", "b", x⟩] [⟨"g0", "a", x1⟩, ⟨"g1", "b", x2⟩]).map fun p => (p.g late).d)) s := by kernel_rfl
theorem gd_9 (x x1 x2 late : Int) (s : Sto) : g__law_good [netD 2 [⟨"l0", "b", "a", x⟩] [⟨"g0", "b", x1⟩], .int late] s = .ok (.list ((proto 2 [⟨"l0", "b", "a", x⟩] [⟨"g0", "b", x1⟩]).map fun p => (p.g late).d)) s := by kernel_rfl
theorem gd_13 (x x1 x2 late : Int) (s : Sto) : g__law_good [netD 2 [⟨"l0", "b", "a", x⟩] [⟨"g0", "b", x1⟩, ⟨"g1", "b", x2⟩], .int late] s = .ok (.list ((proto 2 [⟨"l0", "b", "a", x⟩] [⟨"g0", "b", x1⟩, ⟨"g1", "b", x2⟩]).map fun p => (p.g late).d)) s := by kernel_rfl
theorem gd_17 (x x1 x2 late : Int) (s : Sto) : g__law_good [netD 3 [⟨"l0", "a", "b", x⟩] [⟨"g0", "a", x1⟩, ⟨"g1", "a", x2⟩], .int late] s = .ok (.list ((proto 3 [⟨"l0", "a", "b", x⟩] [⟨"g0", "a", x1⟩, ⟨"g1", "a", x2⟩]).map fun p => (p.g late).d)) s := by kernel_rfl
theorem gd_21 (x x1 x2 late : Int) (s : Sto) : g__law_good [netD 3 [⟨"l0", "a", "b", x⟩] [⟨"g0", "b", x1⟩, ⟨"g1", "b", x2⟩], .int late] s = .ok (.list ((proto 3 [⟨"l0", "a", "b", x⟩] [⟨"g0", "b", x1⟩, ⟨"g1", "b", x2⟩]).map fun p => (p.g late).d)) s := by kernel_rfl
theorem gd_25 (x x1 x2 late : Int) (s : Sto) : g__law_good [netD 3 [⟨"l0", "a", "b", x⟩] [⟨"g0", "c", x1⟩, ⟨"g1", "c", x2⟩], .int late] s = .ok (.list ((proto 3 [⟨"l0", "a", "b", x⟩] [⟨"g0", "c", x1⟩, ⟨"g1", "c", x2⟩]).map fun p => (p.g late).d)) s := by kernel_rfl
theorem gd_29 (x x1 x2 late : Int) (s : Sto) : g__law_good [netD 3 [⟨"l0", "a", "c", x⟩] [⟨"g0", "a", x1⟩, ⟨"g1", "a", x2⟩], .int late] s = .ok (.list ((proto 3 [⟨"l0", "a", "c", x⟩] [⟨"g0", "a", x1⟩, ⟨"g1", "a", x2⟩]).map fun p => (p.g late).d)) s := by kernel_rfl
theorem gd_33 (x x1 x2 late : Int) (s : Sto) : g__law_good [netD 3 [⟨"l0", "a", "c", x⟩] [⟨"g0", "b", x1⟩, ⟨"g1", "b", x2⟩], .int late] s = .ok (.list ((proto 3 [⟨"l0", "a", "c", x⟩] [⟨"g0", "b", x1⟩, ⟨"g1", "b", x2⟩]).map fun p => (p.g late).d)) s := by kernel_rfl
theorem gd_37 (x x1 x2 late : Int) (s : Sto) : g__law_good [netD 3 [⟨"l0", "a", "c", x⟩] [⟨"g0", "c", x1⟩, ⟨"g1", "c", x2⟩], .int late] s = .ok (.list ((proto 3 [⟨"l0", "a", "c", x⟩] [⟨"g0", "c", x1⟩, ⟨"g1", "c", x2⟩]).map fun p => (p.g late).d)) s := by kernel_rfl
theorem gd_41 (x x1 x2 late : Int) (s : Sto) : g__law_good [netD 3 [⟨"l0", "b", "a", x⟩] [⟨"g0", "a", x1⟩, ⟨"g1", "a", x2⟩], .int late] s = .ok (.list ((proto 3 [⟨"l0", "b", "a", x⟩] [⟨"g0", "a", x1⟩, ⟨"g1", "a", x2⟩]).map fun p => (p.g late).d)) s := by kernel_rfl
theorem gd_45 (x x1 x2 late : Int) (s : Sto) : g__law_good [netD 3 [⟨"l0", "b", "a", x⟩] [⟨"g0", "b", x1⟩, ⟨"g1", "b", x2⟩], .int late] s = .ok (.list ((proto 3 [⟨"l0", "b", "a", x⟩] [⟨"g0", "b", x1⟩, ⟨"g1", "b", x2⟩]).map fun p => (p.g late).d)) s := by kernel_rfl
theorem gd_49 (x x1 x2 late : Int) (s : Sto) : g__law_good [netD 3 [⟨"l0", "b", "a", x⟩] [⟨"g0", "c", x1⟩, ⟨"g1", "c", x2⟩], .int late] s = .ok (.list ((proto 3 [⟨"l0", "b", "a", x⟩] [⟨"g0", "c", x1⟩, ⟨"g1", "c", x2⟩]).map fun p => (p.g late).d)) s := by kernel_rfl
theorem gd_53 (x x1 x2 late : Int) (s : Sto) : g__law_good [netD 3 [⟨"l0", "b", "c", x⟩] [⟨"g0", "a", x1⟩, ⟨"g1", "a", x2⟩], .int late] s = .ok (.list ((proto 3 [⟨"l0", "b", "c", x⟩] [⟨"g0", "a", x1⟩, ⟨"g1", "a", x2⟩]).map fun p => (p.g late).d)) s := by kernel_rfl
theorem gd_57 (x x1 x2 late : Int) (s : Sto) : g__law_good [netD 3 [⟨"l0", "b", "c", x⟩] [⟨"g0", "b", x1⟩, ⟨"g1", "b", x2⟩], .int late] s = .ok (.list ((proto 3 [⟨"l0", "b", "c", x⟩] [⟨"g0", "b", x1⟩, ⟨"g1", "b", x2⟩]).map fun p => (p.g late).d)) s := by kernel_rfl
theorem gd_61 (x x1 x2 late : Int) (s : Sto) : g__law_good [netD 3 [⟨"l0", "b", "c", x⟩] [⟨"g0", "c", x1⟩, ⟨"g1", "c", x2⟩], .int late] s = .ok (.list ((proto 3 [⟨"l0", "b", "c", x⟩] [⟨"g0", "c", x1⟩, ⟨"g1", "c", x2⟩]).map fun p => (p.g late).d)) s := by kernel_rfl
theorem gd_65 (x x1 x2 late : Int) (s : Sto) : g__law_good [netD 3 [⟨"l0", "c", "a", x⟩] [⟨"g0", "a", x1⟩, ⟨"g1", "a", x2⟩], .int late] s = .ok (.list ((proto 3 [⟨"l0", "c", "a", x⟩] [⟨"g0", "a", x1⟩, ⟨"g1", "a", x2⟩]).map fun p => (p.g late).d)) s := by kernel_rfl
theorem gd_69 (x x1 x2 late : Int) (s : Sto) : g__law_good [netD 3 [⟨"l0", "c", "a", x⟩] [⟨"g0", "b", x1⟩, ⟨"g1", "b", x2⟩], .int late] s = .ok (.list ((proto 3 [⟨"l0", "c", "a", x⟩] [⟨"g0", "b", x1⟩, ⟨"g1", "b", x2⟩]).map fun p => (p.g late).d)) s := by kernel_rfl
theorem gd_73 (x x1 x2 late : Int) (s : Sto) : g__law_good [netD 3 [⟨"l0", "c", "a", x⟩] [⟨"g0", "c", x1⟩, ⟨"g1", "c", x2⟩], .int late] s = .ok (.list ((proto 3 [⟨"l0", "c", "a", x⟩] [⟨"g0", "c", x1⟩, ⟨"g1", "c", x2⟩]).map fun p => (p.g late).d)) s := by kernel_rfl
theorem gd_77 (x x1 x2 late : Int) (s : Sto) : g__law_good [netD 3 [⟨"l0", "c", "b", x⟩] [⟨"g0", "a", x1⟩, ⟨"g1", "a", x2⟩], .int late] s = .ok (.list ((proto 3 [⟨"l0", "c", "b", x⟩] [⟨"g0", "a", x1⟩, ⟨"g1", "a", x2⟩]).map fun p => (p.g late).d)) s := by kernel_rfl
theorem gd_81 (x x1 x2 late : Int) (s : Sto) : g__law_good [netD 3 [⟨"l0", "c", "b", x⟩] [⟨"g0", "b", x1⟩, ⟨"g1", "b", x2⟩], .int late] s = .ok (.list ((proto 3 [⟨"l0", "c", "b", x⟩] [⟨"g0", "b", x1⟩, ⟨"g1", "b", x2⟩]).map fun p => (p.g late).d)) s := by kernel_rfl
theorem gd_85 (x x1 x2 late : Int) (s : Sto) : g__law_good [netD 3 [⟨"l0", "c", "b", x⟩] [⟨"g0", "c", x1⟩, ⟨"g1", "c", x2⟩], .int late] s = .ok (.list ((proto 3 [⟨"l0", "c", "b", x⟩] [⟨"g0", "c", x1⟩, ⟨"g1", "c", x2⟩]).map fun p => (p.g late).d)) s := by kernel_rfl
end LW
namespace LW
open PySem DL L2
theorem gd_2 (x x1 x2 late : Int) (s : Sto) : g__law_good [netD 2 [⟨"l0", "a", "b", x⟩] [⟨"g0", "a", x1⟩], .int late] s = .ok (.list ((proto 2 [⟨"l0", "a", "b", x⟩] [⟨"g0", "a", x1⟩]).map fun p => (p.g late).d)) s := by kernel_rfl
theorem gd_6 (x x1 x2 late : Int) (s : Sto) : g__law_good [netD 2 [⟨"l0", "a", "b", x⟩] [⟨"g0", "b", x1⟩, ⟨"g1", "a", x2⟩], .int late] s = .ok (.list ((proto 2 [⟨"l0", "a", "b", x⟩] [⟨"g0", "b", x1⟩, ⟨"g1", "a", x2⟩]).map fun p => (p.g late).d)) s := by kernel_rfl
theorem gd_10 (x x1 x2 late : Int) (s : Sto) : g__law_good [netD 2 [⟨"l0", "b", "a", x⟩] [⟨"g0", "a", x1⟩, ⟨"g1", "a", x2⟩], .int late] s = .ok (.list ((proto 2 [⟨"l0", "b", "a", x⟩] [⟨"g0", "a", x1⟩, ⟨"g1", "a", x2⟩]).map fun p => (p.g late).d)) s := by kernel_rfl
theorem gd_14 (x x1 x2 late : Int) (s : Sto) : g__law_good [netD 3 [⟨"l0", "a", "b", x⟩] [⟨"g0", "a", x1⟩], .int late] s = .ok (.list ((proto 3 [⟨"l0", "a", "b", x⟩] [⟨"g0", "a", x1⟩]).map fun p => (p.g late).d)) s := by kernel_rfl
theorem gd_18 (x x1 x2 late : Int) (s : Sto) : g__law_good [netD 3 [⟨"l0", "a", "b", x⟩] [⟨"g0", "a", x1⟩, ⟨"g1", "b", x2⟩], .int late] s = .ok (.list ((proto 3 [⟨"l0", "a", "b", x⟩] [⟨"g0", "a", x1⟩, ⟨"g1", "b", x2⟩]).map fun p => (p.g late).d)) s := by kernel_rfl
theorem gd_22 (x x1 x2 late : Int) (s : Sto) : g__law_good [netD 3 [⟨"l0", "a", "b", x⟩] [⟨"g0", "b", x1⟩, ⟨"g1", "c", x2⟩], .int late] s = .ok (.list ((proto 3 [⟨"l0", "a", "b", x⟩] [⟨"g0", "b", x1⟩, ⟨"g1", "c", x2⟩]).map fun p => (p.g late).d)) s := by kernel_rfl
theorem gd_26 (x x1 x2 late : Int) (s : Sto) : g__law_good [netD 3 [⟨"l0", "a", "c", x⟩] [⟨"g0", "a", x1⟩], .int late] s = .ok (.list ((proto 3 [⟨"l0", "a", "c", x⟩] [⟨"g0", "a", x1⟩]).map fun p => (p.g late).d)) s := by kernel_rfl
theorem gd_30 (x x1 x2 late : Int) (s : Sto) : g__law_good [netD 3 [⟨"l0", "a", "c", x⟩] [⟨"g0", "a", x1⟩, ⟨"g1", "b", x2⟩], .int late] s = .ok (.list ((proto 3 [⟨"l0", "a", "c", x⟩] [⟨"g0", "a", x1⟩, ⟨"g1", "b", x2⟩]).map fun p => (p.g late).d)) s := by kernel_rfl
theorem gd_34 (x x1 x2 late : Int) (s : Sto) : g__law_good [netD 3 [⟨"l0", "a", "c", x⟩] [⟨"g0", "b", x1⟩, ⟨"g1", "c", x2⟩], .int late] s = .ok (.list ((proto 3 [⟨"l0", "a", "c", x⟩] [⟨"g0", "b", x1⟩, ⟨"g1", "c", x2⟩]).map fun p => (p.g late).d)) s := by kernel_rfl
theorem gd_38 (x x1 x2 late : Int) (s : Sto) : g__law_good [netD 3 [⟨"l0", "b", "a", x⟩] [⟨"g0", "a", x1⟩], .int late] s = .ok (.list ((proto 3 [⟨"l0", "b", "a", x⟩] [⟨"g0", "a", x1⟩]).map fun p => (p.g late).d)) s := by kernel_rfl
theorem gd_42 (x x1 x2 late : Int) (s : Sto) : g__law_good [netD 3 [⟨"l0", "b", "a", x⟩] [⟨"g0", "a", x1⟩, ⟨"g1", "b", x2⟩], .int late] s = .ok (.list ((proto 3 [⟨"l0", "b", "a", x⟩] [⟨"g0", "a", x1⟩, ⟨"g1", "b", x2⟩]).map fun p => (p.g late).d)) s := by kernel_rfl
theorem gd_46 (x x1 x2 late : Int) (s : Sto) : g__law_good [netD 3 [⟨"l0", "b", "a", x⟩] [⟨"g0", "b", x1⟩, ⟨"g1", "c", x2⟩], .int late] s = .ok (.list ((proto 3 [⟨"l0", "b", "a", x⟩] [⟨"g0", "b", x1⟩, ⟨"g1", "c", x2⟩]).map fun p => (p.g late).d)) s := by kernel_rfl
theorem gd_50 (x x1 x2 late : Int) (s : Sto) : g__law_good [netD 3 [⟨"l0", "b", "c", x⟩] [⟨"g0", "a", x1⟩], .int late] s = .ok (.list ((proto 3 [⟨"l0", "b", "c", x⟩] [⟨"g0", "a", x1⟩]).map fun p => (p.g late).d)) s := by kernel_rfl
theorem gd_54 (x x1 x2 late : Int) (s : Sto) : g__law_good [netD 3 [⟨"l0", "b", "c", x⟩] [⟨"g0", "a", x1⟩, ⟨"g1", "b", x2⟩], .int late] s = .ok (.list ((proto 3 [⟨"l0", "b", "c", x⟩] [⟨"g0", "a", x1⟩, ⟨"g1", "b", x2⟩]).map fun p => (p.g late).d)) s := by kernel_rfl
theorem gd_58 (x x1 x2 late : Int) (s : Sto) : g__law_good [netD 3 [⟨"l0", "b", "c", x⟩] [⟨"g0", "b", x1⟩, ⟨"g1", "c", x2⟩], .int late] s = .ok (.list ((proto 3 [⟨"l0", "b", "c", x⟩] [⟨"g0", "b", x1⟩, ⟨"g1", "c", x2⟩]).map fun p => (p.g late).d)) s := by kernel_rfl
theorem gd_62 (x x1 x2 late : Int) (s : Sto) : g__law_good [netD 3 [⟨"l0", "c", "a", x⟩] [⟨"g0", "a", x1⟩], .int late] s = .ok (.list ((proto 3 [⟨"l0", "c", "a", x⟩] [⟨"g0", "a", x1⟩]).map fun p => (p.g late).d)) s := by kernel_rfl
theorem gd_66 (x x1 x2 late : Int) (s : Sto) : g__law_good [netD 3 [⟨"l0", "c", "a", x⟩] [⟨"g0", "a", x1⟩, ⟨"g1", "b", x2⟩], .int late] s = .ok (.list ((proto 3 [⟨"l0", "c", "a", x⟩] [⟨"g0", "a", x1⟩, ⟨"g1", "b", x2⟩]).map fun p => (p.g late).d)) s := by kernel_rfl
theorem gd_70 (x x1 x2 late : Int) (s : Sto) : g__law_good [netD 3 [⟨"l0", "c", "a", x⟩] [⟨"g0", "b", x1⟩, ⟨"g1", "c", x2⟩], .int late] s = .ok (.list ((proto 3 [⟨"l0", "c", "a", x⟩] [⟨"g0", "b", x1⟩, ⟨"g1", "c", x2⟩]).map fun p => (p.g late).d)) s := by kernel_rfl
theorem gd_74 (x x1 x2 late : Int) (s : Sto) : g__law_good [netD 3 [⟨"l0", "c", "b", x⟩] [⟨"g0", "a", x1⟩], .int late] s = .ok (.list ((proto 3 [⟨"l0", "c", "b", x⟩] [⟨"g0", "a", x1⟩]).map fun p => (p.g late).d)) s := by kernel_rfl
theorem gd_78 (x x1 x2 late : Int) (s : Sto) : g__law_good [netD 3 [⟨"l0", "c", "b", x⟩] [⟨"g0", "a", x1⟩, ⟨"g1", "b", x2⟩], .int late] s = .ok (.list ((proto 3 [⟨"l0", "c", "b", x⟩] [⟨"g0", "a", x1⟩, ⟨"g1", "b", x2⟩]).map fun p => (p.g late).d)) s := by kernel_rfl
theorem gd_82 (x x1 x2 late : Int) (s : Sto) : g__law_good [netD 3 [⟨"l0", "c", "b", x⟩] [⟨"g0", "b", x1⟩, ⟨"g1", "c", x2⟩], .int late] s = .ok (.list ((proto 3 [⟨"l0", "c", "b", x⟩] [⟨"g0", "b", x1⟩, ⟨"g1", "c", x2⟩]).map fun p => (p.g late).d)) s := by kernel_rfl
end LW
namespace LW
open PySem DL L2
theorem gd_3 (x x1 x2 late : Int) (s : Sto) : g__law_good [netD 2 [⟨"l0", "a", "b", x⟩] [⟨"g0", "b", x1⟩], .int late] s = .ok (.list ((proto 2 [⟨"l0", "a", "b", x⟩] [⟨"g0", "b", x1⟩]).map fun p => (p.g late).d)) s := by kernel_rfl
theorem gd_7 (x x1 x2 late : Int) (s : Sto) : g__law_good [netD 2 [⟨"l0", "a", "b", x⟩] [⟨"g0", "b", x1⟩, ⟨"g1", "b", x2⟩], .int late] s = .ok (.list ((proto 2 [⟨"l0", "a", "b", x⟩] [⟨"g0", "b", x1⟩, ⟨"g1", "b", x2⟩]).map fun p => (p.g late).d)) s := by kernel_rfl
theorem gd_11 (x x1 x2 late : Int) (s : Sto) : g__law_good [netD 2 [⟨"l0", "b", "a", x⟩] [⟨"g0", "a", x1⟩, ⟨"g1", "b", x2⟩], .int late] s = .ok (.list ((proto 2 [⟨"l0", "b", "a", x⟩] [⟨"g0", "a", x1⟩, ⟨"g1", "b", x2⟩]).map fun p => (p.g late).d)) s := by kernel_rfl
theorem gd_15 (x x1 x2 late : Int) (s : Sto) : g__law_good [netD 3 [⟨"l0", "a", "b", x⟩] [⟨"g0", "b", x1⟩], .int late] s = .ok (.list ((proto 3 [⟨"l0", "a", "b", x⟩] [⟨"g0", "b", x1⟩]).map fun p => (p.g late).d)) s := by kernel_rfl
theorem gd_19 (x x1 x2 late : Int) (s : Sto) : g__law_good [netD 3 [⟨"l0", "a", "b", x⟩] [⟨"g0", "a", x1⟩, ⟨"g1", "c", x2⟩], .int late] s = .ok (.list ((proto 3 [⟨"l0", "a", "b", x⟩] [⟨"g0", "a", x1⟩, ⟨"g1", "c", x2⟩]).map fun p => (p.g late).d)) s := by kernel_rfl
theorem gd_23 (x x1 x2 late : Int) (s : Sto) : g__law_good [netD 3 [⟨"l0", "a", "b", x⟩] [⟨"g0", "c", x1⟩, ⟨"g1", "a", x2⟩], .int late] s = .ok (.list ((proto 3 [⟨"l0", "a", "b", x⟩] [⟨"g0", "c", x1⟩, ⟨"g1", "a", x2⟩]).map fun p => (p.g late).d)) s := by kernel_rfl
theorem gd_27 (x x1 x2 late : Int) (s : Sto) : g__law_good [netD 3 [⟨"l0", "a", "c", x⟩] [⟨"g0", "b", x1⟩], .int late] s = .ok (.list ((proto 3 [⟨"l0", "a", "c", x⟩] [⟨"g0", "b", x1⟩]).map fun p => (p.g late).d)) s := by kernel_rfl
theorem gd_31 (x x1 x2 late : Int) (s : Sto) : g__law_good [netD 3 [⟨"l0", "a", "c", x⟩] [⟨"g0", "a", x1⟩, ⟨"g1", "c", x2⟩], .int late] s = .ok (.list ((proto 3 [⟨"l0", "a", "c", x⟩] [⟨"g0", "a", x1⟩, ⟨"g1", "c", x2⟩]).map fun p => (p.g late).d)) s := by kernel_rfl
theorem gd_35 (x x1 x2 late : Int) (s : Sto) : g__law_good [netD 3 [⟨"l0", "a", "c", x⟩] [⟨"g0", "c", x1⟩, ⟨"g1", "a", x2⟩], .int late] s = .ok (.list ((proto 3 [⟨"l0", "a", "c", x⟩] [⟨"g0", "c", x1⟩, ⟨"g1", "a", x2⟩]).map fun p => (p.g late).d)) s := by kernel_rfl
theorem gd_39 (x x1 x2 late : Int) (s : Sto) : g__law_good [netD 3 [⟨"l0", "b", "a", x⟩] [⟨"g0", "b", x1⟩], .int late] s = .ok (.list ((proto 3 [⟨"l0", "b", "a", x⟩] [⟨"g0", "b", x1⟩]).map fun p => (p.g late).d)) s := by kernel_rfl
theorem gd_43 (x x1 x2 late : Int) (s : Sto) : g__law_good [netD 3 [⟨"l0", "b", "a", x⟩] [⟨"g0", "a", x1⟩, ⟨"g1", "c", x2⟩], .int late] s = .ok (.list ((proto 3 [⟨"l0", "b", "a", x⟩] [⟨"g0", "a", x1⟩, ⟨"g1", "c", x2⟩]).map fun p => (p.g late).d)) s := by kernel_rfl
theorem gd_47 (x x1 x2 late : Int) (s : Sto) : g__law_good [netD 3 [⟨"l0", "b", "a", x⟩] [⟨"g0", "c", x1⟩, ⟨"g1", "a", x2⟩], .int late] s = .ok (.list ((proto 3 [⟨"l0", "b", "a", x⟩] [⟨"g0", "c", x1⟩, ⟨"g1", "a", x2⟩]).map fun p => (p.g late).d)) s := by kernel_rfl
theorem gd_51 (x x1 x2 late : Int) (s : Sto) : g__law_good [netD 3 [⟨"l0", "b", "c", x⟩] [⟨"g0", "b", x1⟩], .int late] s = .ok (.list ((proto 3 [⟨"l0", "b", "c", x⟩] [⟨"g0", "b", x1⟩]).map fun p => (p.g late).d)) s := by kernel_rfl
theorem gd_55 (x x1 x2 late : Int) (s : Sto) : g__law_good [netD 3 [⟨"l0", "b", "c", x⟩] [⟨"g0", "a", x1⟩, ⟨"g1", "c", x2⟩], .int late] s = .ok (.list ((proto 3 [⟨"l0", "b", "c", x⟩] [⟨"g0", "a", x1⟩, ⟨"g1", "c", x2⟩]).map fun p => (p.g late).d)) s := by kernel_rfl
theorem gd_59 (x x1 x2 late : Int) (s : Sto) : g__law_good [netD 3 [⟨"l0", "b", "c", x⟩] [⟨"g0", "c", x1⟩, ⟨"g1", "a", x2⟩], .int late] s = .ok (.list ((proto 3 [⟨"l0", "b", "c", x⟩] [⟨"g0", "c", x1⟩, ⟨"g1", "a", x2⟩]).map fun p => (p.g late).d)) s := by kernel_rfl
theorem gd_63 (x x1 x2 late : Int) (s : Sto) : g__law_good [netD 3 [⟨"l0", "c", "a", x⟩] [⟨"g0", "b", x1⟩], .int late] s = .ok (.list ((proto 3 [⟨"l0", "c", "a", x⟩] [⟨"g0", "b", x1⟩]).map fun p => (p.g late).d)) s := by kernel_rfl
theorem gd_67 (x x1 x2 late : Int) (s : Sto) : g__law_good [netD 3 [⟨"l0", "c", "a", x⟩] [⟨"g0", "a", x1⟩, ⟨"g1", "c", x2⟩], .int late] s = .ok (.list ((proto 3 [⟨"l0", "c", "a", x⟩] [⟨"g0", "a", x1⟩, ⟨"g1", "c", x2⟩]).map fun p => (p.g late).d)) s := by kernel_rfl
theorem gd_71 (x x1 x2 late : Int) (s : Sto) : g__law_good [netD 3 [⟨"l0", "c", "a", x⟩] [⟨"g0", "c", x1⟩, ⟨"g1", "a", x2⟩], .int late] s = .ok (.list ((proto 3 [⟨"l0", "c", "a", x⟩] [⟨"g0", "c", x1⟩, ⟨"g1", "a", x2⟩]).map fun p => (p.g late).d)) s := by kernel_rfl
theorem gd_75 (x x1 x2 late : Int) (s : Sto) : g__law_good [netD 3 [⟨"l0", "c", "b", x⟩] [⟨"g0", "b", x1⟩], .int late] s = .ok (.list ((proto 3 [⟨"l0", "c", "b", x⟩] [⟨"g0", "b", x1⟩]).map fun p => (p.g late).d)) s := by kernel_rfl
theorem gd_79 (x x1 x2 late : Int) (s : Sto) : g__law_good [netD 3 [⟨"l0", "c", "b", x⟩] [⟨"g0", "a", x1⟩, ⟨"g1", "c", x2⟩], .int late] s = .ok (.list ((proto 3 [⟨"l0", "c", "b", x⟩] [⟨"g0", "a", x1⟩, ⟨"g1", "c", x2⟩]).map fun p => (p.g late).d)) s := by kernel_rfl
theorem gd_83 (x x1 x2 late : Int) (s : Sto) : g__law_good [netD 3 [⟨"l0", "c", "b", x⟩] [⟨"g0", "c", x1⟩, ⟨"g1", "a", x2⟩], .int late] s = .ok (.list ((proto 3 [⟨"l0", "c", "b", x⟩] [⟨"g0", "c", x1⟩, ⟨"g1", "a", x2⟩]).map fun p => (p.g late).d)) s := by kernel_rfl
end LW
namespace LW
open PySem DL L2
def GN : List Str := ["q0", "q1", "q2", "q3", "d0", "d1", "f20", "f21", "e0", "e1", "e2", "e3", "e4", "e5", "e6", "e7"]
def nmsL (nl : Nat) : List Str := (["l0", "l1"] : List Str).take nl
def tdB (nb nl ns : Nat) : Td → Bool
  | .over b f _ => decide (b ∈ bsC nl ns) && decide (f ∈ FR)
  | .reach b f => decide (b ∈ bsC nl ns) && decide (f ∈ FR)
  | .behind b => decide (b ∈ bsC nl ns)
  | .diff p f => decide (p ∈ busL nb ++ nmsL nl) && decide (f ∈ FR)
theorem tdB_is {nb nl ns : Nat} {ls : List Ln} (h : ls.map Ln.nm = nmsL nl) : ∀ {td : Td}, tdB nb nl ns td = true → TdOk nb ls (bsC nl ns) td
  | .over b f fw, q => by simp [tdB] at q; exact .over _ _ _ q.1 q.2
  | .reach b f, q => by simp [tdB] at q; exact .reach _ _ q.1 q.2
  | .behind b, q => by simp [tdB] at q; exact .behind _ q
  | .diff p f, q => by
    simp only [tdB, Bool.and_eq_true, decide_eq_true_eq] at q
    exact .diff _ _ (by rw [h]; exact q.1) q.2
def pOk1 (nb nl ns : Nat) (p : Pg) : Bool := tdB nb nl ns p.td && decide (p.op ∈ (subs (bsC nl ns)).map sortB) && !p.op.isEmpty && decide (p.nm ∈ GN)
def pOk (nb nl ns : Nat) (ps : List Pg) : Bool := ps.all (pOk1 nb nl ns) && decide ((ps.map Pg.nm).Nodup) && decide (2 ≤ ps.length) && decide (ps.length ≤ 10)
structure GsOk (nb nl ns : Nat) (ls : List Ln) (gs : List Gd) : Prop where
  each : ∀ g ∈ gs, GdOk nb nl ns ls g ∧ g.nm ∈ GN
  nd : (gs.map Gd.nm).Nodup
  ge : 1 ≤ gs.length
  le : gs.length ≤ 10
theorem pOk_is {nb nl ns : Nat} {ls : List Ln} (h : ls.map Ln.nm = nmsL nl) {ps : List Pg} (q : pOk nb nl ns ps = true) {late : Int} (h0 : 0 ≤ late) (h3 : late ≤ 3) : GsOk nb nl ns ls (ps.map fun p => p.g late) := by
  simp only [pOk, Bool.and_eq_true, decide_eq_true_eq] at q
  obtain ⟨⟨⟨q1, q2⟩, q3⟩, q4⟩ := q
  refine ⟨fun g hg => ?_, by rw [List.map_map]; exact q2, by rw [List.length_map]; omega, by simpa using q4⟩
  obtain ⟨p, hp, rfl⟩ := List.mem_map.mp hg
  have r := List.all_eq_true.mp q1 p hp
  simp only [pOk1, Bool.and_eq_true, decide_eq_true_eq] at r
  obtain ⟨⟨⟨r1, r2⟩, r3⟩, r4⟩ := r
  refine ⟨⟨tdB_is h r1, ?_, ?_, ?_⟩, r4⟩
  · show 0 ≤ (if p.lt then late else 0)
    split <;> omega
  · show (if p.lt then late else 0) ≤ 3
    split <;> omega
  · obtain ⟨ys, hy, e⟩ := List.mem_map.mp r2
    refine ⟨ys, hy, fun z => ?_, e.symm⟩
    subst z
    have : p.op = [] := e.symm
    rw [this] at r3
    simp at r3
theorem l0_is : numS "l" 0 = "l0" := by decide +kernel
theorem l1_is : numS "l" 1 = "l1" := by decide +kernel
theorem g0_is : numS "g" 0 = "g0" := by decide +kernel
theorem g1_is : numS "g" 1 = "g1" := by decide +kernel
theorem po_0 (x x1 x2 : Int) : pOk 1 0 1 (proto 1 [] [⟨"g0", "a", x1⟩]) = true := by kernel_rfl
theorem po_1 (x x1 x2 : Int) : pOk 1 0 2 (proto 1 [] [⟨"g0", "a", x1⟩, ⟨"g1", "a", x2⟩]) = true := by kernel_rfl
theorem po_2 (x x1 x2 : Int) : pOk 2 1 1 (proto 2 [⟨"l0", "a", "b", x⟩] [⟨"g0", "a", x1⟩]) = true := by kernel_rfl
theorem po_3 (x x1 x2 : Int) : pOk 2 1 1 (proto 2 [⟨"l0", "a", "b", x⟩] [⟨"g0", "b", x1⟩]) = true := by kernel_rfl
theorem po_4 (x x1 x2 : Int) : pOk 2 1 2 (proto 2 [⟨"l0", "a", "b", x⟩] [⟨"g0", "a", x1⟩, ⟨"g1", "a", x2⟩]) = true := by kernel_rfl
theorem po_5 (x x1 x2 : Int) : pOk 2 1 2 (proto 2 [⟨"l0", "a", "b", x⟩] [⟨"g0", "a", x1⟩, ⟨"g1", "b", x2⟩]) = true := by kernel_rfl
theorem po_6 (x x1 x2 : Int) : pOk 2 1 2 (proto 2 [⟨"l0", "a", "b", x⟩] [⟨"g0", "b", x1⟩, ⟨"g1", "a", x2⟩]) = true := by kernel_rfl
theorem po_7 (x x1 x2 : Int) : pOk 2 1 2 (proto 2 [⟨"l0", "a", "b", x⟩] [⟨"g0", "b", x1⟩, ⟨"g1", "b", x2⟩]) = true := by kernel_rfl
theorem po_8 (x x1 x2 : Int) : pOk 2 1 1 (proto 2 [⟨"l0", "b", "a", x⟩] [⟨"g0", "a", x1⟩]) = true := by kernel_rfl
theorem po_9 (x x1 x2 : Int) : pOk 2 1 1 (proto 2 [⟨"l0", "b", "a", x⟩] [⟨"g0", "b", x1⟩]) = true := by kernel_rfl
theorem po_10 (x x1 x2 : Int) : pOk 2 1 2 (proto 2 [⟨"l0", "b", "a", x⟩] [⟨"g0", "a", x1⟩, ⟨"g1", "a", x2⟩]) = true := by kernel_rfl
theorem po_11 (x x1 x2 : Int) : pOk 2 1 2 (proto 2 [⟨"l0", "b", "a", x⟩] [⟨"g0", "a", x1⟩, ⟨"g1", "b", x2⟩]) = true := by kernel_rfl
theorem po_12 (x x1 x2 : Int) : pOk 2 1 2 (proto 2 [⟨"l0", "b", "a", x⟩] [⟨"g0", "b", x1⟩, ⟨"g1", "a", x2⟩]) = true := by kernel_rfl
theorem po_13 (x x1 x2 : Int) : pOk 2 1 2 (proto 2 [⟨"l0", "b", "a", x⟩] [⟨"g0", "b", x1⟩, ⟨"g1", "b", x2⟩]) = true := by kernel_rfl
theorem po_14 (x x1 x2 : Int) : pOk 3 1 1 (proto 3 [⟨"l0", "a", "b", x⟩] [⟨"g0", "a", x1⟩]) = true := by kernel_rfl
theorem po_15 (x x1 x2 : Int) : pOk 3 1 1 (proto 3 [⟨"l0", "a", "b", x⟩] [⟨"g0", "b", x1⟩]) = true := by kernel_rfl
theorem po_16 (x x1 x2 : Int) : pOk 3 1 1 (proto 3 [⟨"l0", "a", "b", x⟩] [⟨"g0", "c", x1⟩]) = true := by kernel_rfl
theorem po_17 (x x1 x2 : Int) : pOk 3 1 2 (proto 3 [⟨"l0", "a", "b", x⟩] [⟨"g0", "a", x1⟩, ⟨"g1", "a", x2⟩]) = true := by kernel_rfl
theorem po_18 (x x1 x2 : Int) : pOk 3 1 2 (proto 3 [⟨"l0", "a", "b", x⟩] [⟨"g0", "a", x1⟩, ⟨"g1", "b", x2⟩]) = true := by kernel_rfl
theorem po_19 (x x1 x2 : Int) : pOk 3 1 2 (proto 3 [⟨"l0", "a", "b", x⟩] [⟨"g0", "a", x1⟩, ⟨"g1", "c", x2⟩]) = true := by kernel_rfl
theorem po_20 (x x1 x2 : Int) : pOk 3 1 2 (proto 3 [⟨"l0", "a", "b", x⟩] [⟨"g0", "b", x1⟩, ⟨"g1", "a", x2⟩]) = true := by kernel_rfl
theorem po_21 (x x1 x2 : Int) : pOk 3 1 2 (proto 3 [⟨"l0", "a", "b", x⟩] [⟨"g0", "b", x1⟩, ⟨"g1", "b", x2⟩]) = true := by kernel_rfl
theorem po_22 (x x1 x2 : Int) : pOk 3 1 2 (proto 3 [⟨"l0", "a", "b", x⟩] [⟨"g0", "b", x1⟩, ⟨"g1", "c", x2⟩]) = true := by kernel_rfl
theorem po_23 (x x1 x2 : Int) : pOk 3 1 2 (proto 3 [⟨"l0", "a", "b", x⟩] [⟨"g0", "c", x1⟩, ⟨"g1", "a", x2⟩]) = true := by kernel_rfl
theorem po_24 (x x1 x2 : Int) : pOk 3 1 2 (proto 3 [⟨"l0", "a", "b", x⟩] [⟨"g0", "c", x1⟩, ⟨"g1", "b", x2⟩]) = true := by kernel_rfl
theorem po_25 (x x1 x2 : Int) : pOk 3 1 2 (proto 3 [⟨"l0", "a", "b", x⟩] [⟨"g0", "c", x1⟩, ⟨"g1", "c", x2⟩]) = true := by kernel_rfl
theorem po_26 (x x1 x2 : Int) : pOk 3 1 1 (proto 3 [⟨"l0", "a", "c", x⟩] [⟨"g0", "a", x1⟩]) = true := by kernel_rfl
theorem po_27 (x x1 x2 : Int) : pOk 3 1 1 (proto 3 [⟨"l0", "a", "c", x⟩] [⟨"g0", "b", x1⟩]) = true := by kernel_rfl
theorem po_28 (x x1 x2 : Int) : pOk 3 1 1 (proto 3 [⟨"l0", "a", "c", x⟩] [⟨"g0", "c", x1⟩]) = true := by kernel_rfl
theorem po_29 (x x1 x2 : Int) : pOk 3 1 2 (proto 3 [⟨"l0", "a", "c", x⟩] [⟨"g0", "a", x1⟩, ⟨"g1", "a", x2⟩]) = true := by kernel_rfl
theorem po_30 (x x1 x2 : Int) : pOk 3 1 2 (proto 3 [⟨"l0", "a", "c", x⟩] [⟨"g0", "a", x1⟩, ⟨"g1", "b", x2⟩]) = true := by kernel_rfl
theorem po_31 (x x1 x2 : Int) : pOk 3 1 2 (proto 3 [⟨"l0", "a", "c", x⟩] [⟨"g0", "a", x1⟩, ⟨"g1", "c", x2⟩]) = true := by kernel_rfl
theorem po_32 (x x1 x2 : Int) : pOk 3 1 2 (proto 3 [⟨"l0", "a", "c", x⟩] [⟨"g0", "b", x1⟩, ⟨"g1", "a", x2⟩]) = true := by kernel_rfl
theorem po_33 (x x1 x2 : Int) : pOk 3 1 2 (proto 3 [⟨"l0", "a", "c", x⟩] [⟨"g0", "b", x1⟩, ⟨"g1", "b", x2⟩]) = true := by kernel_rfl
theorem po_34 (x x1 x2 : Int) : pOk 3 1 2 (proto 3 [⟨"l0", "a", "c", x⟩] [⟨"g0", "b", x1⟩, ⟨"g1", "c", x2⟩]) = true := by kernel_rfl
theorem po_35 (x x1 x2 : Int) : pOk 3 1 2 (proto 3 [⟨"l0", "a", "c", x⟩] [⟨"g0", "c", x1⟩, ⟨"g1", "a", x2⟩]) = true := by kernel_rfl
theorem po_36 (x x1 x2 : Int) : pOk 3 1 2 (proto 3 [⟨"l0", "a", "c", x⟩] [⟨"g0", "c", x1⟩, ⟨"g1", "b", x2⟩]) = true := by kernel_rfl
theorem po_37 (x x1 x2 : Int) : pOk 3 1 2 (proto 3 [⟨"l0", "a", "c", x⟩] [⟨"g0", "c", x1⟩, ⟨"g1", "c", x2⟩]) = true := by kernel_rfl
theorem po_38 (x x1 x2 : Int) : pOk 3 1 1 (proto 3 [⟨"l0", "b", "a", x⟩] [⟨"g0", "a", x1⟩]) = true := by kernel_rfl
theorem po_39 (x x1 x2 : Int) : pOk 3 1 1 (proto 3 [⟨"l0", "b", "a", x⟩] [⟨"g0", "b", x1⟩]) = true := by kernel_rfl
theorem po_40 (x x1 x2 : Int) : pOk 3 1 1 (proto 3 [⟨"l0", "b", "a", x⟩] [⟨"g0", "c", x1⟩]) = true := by kernel_rfl
theorem po_41 (x x1 x2 : Int) : pOk 3 1 2 (proto 3 [⟨"l0", "b", "a", x⟩] [⟨"g0", "a", x1⟩, ⟨"g1", "a", x2⟩]) = true := by kernel_rfl
theorem po_42 (x x1 x2 : Int) : pOk 3 1 2 (proto 3 [⟨"l0", "b", "a", x⟩] [⟨"g0", "a", x1⟩, ⟨"g1", "b", x2⟩]) = true := by kernel_rfl
theorem po_43 (x x1 x2 : Int) : pOk 3 1 2 (proto 3 [⟨"l0", "b", "a", x⟩] [⟨"g0", "a", x1⟩, ⟨"g1", "c", x2⟩]) = true := by kernel_rfl
theorem po_44 (x x1 x2 : Int) : pOk 3 1 2 (proto 3 [⟨"l0", "b", "a", x⟩] [⟨"g0", "b", x1⟩, ⟨"g1", "a", x2⟩]) = true := by kernel_rfl
theorem po_45 (x x1 x2 : Int) : pOk 3 1 2 (proto 3 [⟨"l0", "b", "a", x⟩] [⟨"g0", "b", x1⟩, ⟨"g1", "b", x2⟩]) = true := by kernel_rfl
theorem po_46 (x x1 x2 : Int) : pOk 3 1 2 (proto 3 [⟨"l0", "b", "a", x⟩] [⟨"g0", "b", x1⟩, ⟨"g1", "c", x2⟩]) = true := by kernel_rfl
theorem po_47 (x x1 x2 : Int) : pOk 3 1 2 (proto 3 [⟨"l0", "b", "a", x⟩] [⟨"g0", "c", x1⟩, ⟨"g1", "a", x2⟩]) = true := by kernel_rfl
theorem po_48 (x x1 x2 : Int) : pOk 3 1 2 (proto 3 [⟨"l0", "b", "a", x⟩] [⟨"g0", "c", x1⟩, ⟨"g1", "b", x2⟩]) = true := by kernel_rfl
theorem po_49 (x x1 x2 : Int) : pOk 3 1 2 (proto 3 [⟨"l0", "b", "a", x⟩] [⟨"g0", "c", x1⟩, ⟨"g1", "c", x2⟩]) = true := by kernel_rfl
theorem po_50 (x x1 x2 : Int) : pOk 3 1 1 (proto 3 [⟨"l0", "b", "c", x⟩] [⟨"g0", "a", x1⟩]) = true := by kernel_rfl
theorem po_51 (x x1 x2 : Int) : pOk 3 1 1 (proto 3 [⟨"l0", "b", "c", x⟩] [⟨"g0", "b", x1⟩]) = true := by kernel_rfl
theorem po_52 (x x1 x2 : Int) : pOk 3 1 1 (proto 3 [⟨"l0", "b", "c", x⟩] [⟨"g0", "c", x1⟩]) = true := by kernel_rfl
theorem po_53 (x x1 x2 : Int) : pOk 3 1 2 (proto 3 [⟨"l0", "b", "c", x⟩] [⟨"g0", "a", x1⟩, ⟨"g1", "a", x2⟩]) = true := by kernel_rfl
theorem po_54 (x x1 x2 : Int) : pOk 3 1 2 (proto 3 [⟨"l0", "b", "c", x⟩] [⟨"g0", "a", x1⟩, ⟨"g1", "b", x2⟩]) = true := by kernel_rfl
theorem po_55 (x x1 x2 : Int) : pOk 3 1 2 (proto 3 [⟨"l0", "b", "c", x⟩] [⟨"g0", "a", x1⟩, ⟨"g1", "c", x2⟩]) = true := by kernel_rfl
theorem po_56 (x x1 x2 : Int) : pOk 3 1 2 (proto 3 [⟨"l0", "b", "c", x⟩] [⟨"g0", "b", x1⟩, ⟨"g1", "a", x2⟩]) = true := by kernel_rfl
theorem po_57 (x x1 x2 : Int) : pOk 3 1 2 (proto 3 [⟨"l0", "b", "c", x⟩] [⟨"g0", "b", x1⟩, ⟨"g1", "b", x2⟩]) = true := by kernel_rfl
theorem po_58 (x x1 x2 : Int) : pOk 3 1 2 (proto 3 [⟨"l0", "b", "c", x⟩] [⟨"g0", "b", x1⟩, ⟨"g1", "c", x2⟩]) = true := by kernel_rfl
theorem po_59 (x x1 x2 : Int) : pOk 3 1 2 (proto 3 [⟨"l0", "b", "c", x⟩] [⟨"g0", "c", x1⟩, ⟨"g1", "a", x2⟩]) = true := by kernel_rfl
theorem po_60 (x x1 x2 : Int) : pOk 3 1 2 (proto 3 [⟨"l0", "b", "c", x⟩] [⟨"g0", "c", x1⟩, ⟨"g1", "b", x2⟩]) = true := by kernel_rfl
theorem po_61 (x x1 x2 : Int) : pOk 3 1 2 (proto 3 [⟨"l0", "b", "c", x⟩] [⟨"g0", "c", x1⟩, ⟨"g1", "c", x2⟩]) = true := by kernel_rfl
theorem po_62 (x x1 x2 : Int) : pOk 3 1 1 (proto 3 [⟨"l0", "c", "a", x⟩] [⟨"g0", "a", x1⟩]) = true := by kernel_rfl
theorem po_63 (x x1 x2 : Int) : pOk 3 1 1 (proto 3 [⟨"l0", "c", "a", x⟩] [⟨"g0", "b", x1⟩]) = true := by kernel_rfl
theorem po_64 (x x1 x2 : Int) : pOk 3 1 1 (proto 3 [⟨"l0", "c", "a", x⟩] [⟨"g0", "c", x1⟩]) = true := by kernel_rfl
theorem po_65 (x x1 x2 : Int) : pOk 3 1 2 (proto 3 [⟨"l0", "c", "a", x⟩] [⟨"g0", "a", x1⟩, ⟨"g1", "a", x2⟩]) = true := by kernel_rfl
theorem po_66 (x x1 x2 : Int) : pOk 3 1 2 (proto 3 [⟨"l0", "c", "a", x⟩] [⟨"g0", "a", x1⟩, ⟨"g1", "b", x2⟩]) = true := by kernel_rfl
theorem po_67 (x x1 x2 : Int) : pOk 3 1 2 (proto 3 [⟨"l0", "c", "a", x⟩] [⟨"g0", "a", x1⟩, ⟨"g1", "c", x2⟩]) = true := by kernel_rfl
theorem po_68 (x x1 x2 : Int) : pOk 3 1 2 (proto 3 [⟨"l0", "c", "a", x⟩] [⟨"g0", "b", x1⟩, ⟨"g1", "a", x2⟩]) = true := by kernel_rfl
theorem po_69 (x x1 x2 : Int) : pOk 3 1 2 (proto 3 [⟨"l0", "c", "a", x⟩] [⟨"g0", "b", x1⟩, ⟨"g1", "b", x2⟩]) = true := by kernel_rfl
theorem po_70 (x x1 x2 : Int) : pOk 3 1 2 (proto 3 [⟨"l0", "c", "a", x⟩] [⟨"g0", "b", x1⟩, ⟨"g1", "c", x2⟩]) = true := by kernel_rfl
theorem po_71 (x x1 x2 : Int) : pOk 3 1 2 (proto 3 [⟨"l0", "c", "a", x⟩] [⟨"g0", "c", x1⟩, ⟨"g1", "a", x2⟩]) = true := by kernel_rfl
theorem po_72 (x x1 x2 : Int) : pOk 3 1 2 (proto 3 [⟨"l0", "c", "a", x⟩] [⟨"g0", "c", x1⟩, ⟨"g1", "b", x2⟩]) = true := by kernel_rfl
theorem po_73 (x x1 x2 : Int) : pOk 3 1 2 (proto 3 [⟨"l0", "c", "a", x⟩] [⟨"g0", "c", x1⟩, ⟨"g1", "c", x2⟩]) = true := by kernel_rfl
theorem po_74 (x x1 x2 : Int) : pOk 3 1 1 (proto 3 [⟨"l0", "c", "b", x⟩] [⟨"g0", "a", x1⟩]) = true := by kernel_rfl
theorem po_75 (x x1 x2 : Int) : pOk 3 1 1 (proto 3 [⟨"l0", "c", "b", x⟩] [⟨"g0", "b", x1⟩]) = true := by kernel_rfl
theorem po_76 (x x1 x2 : Int) : pOk 3 1 1 (proto 3 [⟨"l0", "c", "b", x⟩] [⟨"g0", "c", x1⟩]) = true := by kernel_rfl
theorem po_77 (x x1 x2 : Int) : pOk 3 1 2 (proto 3 [⟨"l0", "c", "b", x⟩] [⟨"g0", "a", x1⟩, ⟨"g1", "a", x2⟩]) = true := by kernel_rfl
theorem po_78 (x x1 x2 : Int) : pOk 3 1 2 (proto 3 [⟨"l0", "c", "b", x⟩] [⟨"g0", "a", x1⟩, ⟨"g1", "b", x2⟩]) = true := by kernel_rfl
theorem po_79 (x x1 x2 : Int) : pOk 3 1 2 (proto 3 [⟨"l0", "c", "b", x⟩] [⟨"g0", "a", x1⟩, ⟨"g1", "c", x2⟩]) = true := by kernel_rfl
theorem po_80 (x x1 x2 : Int) : pOk 3 1 2 (proto 3 [⟨"l0", "c", "b", x⟩] [⟨"g0", "b", x1⟩, ⟨"g1", "a", x2⟩]) = true := by kernel_rfl
theorem po_81 (x x1 x2 : Int) : pOk 3 1 2 (proto 3 [⟨"l0", "c", "b", x⟩] [⟨"g0", "b", x1⟩, ⟨"g1", "b", x2⟩]) = true := by kernel_rfl
theorem po_82 (x x1 x2 : Int) : pOk 3 1 2 (proto 3 [⟨"l0", "c", "b", x⟩] [⟨"g0", "b", x1⟩, ⟨"g1", "c", x2⟩]) = true := by kernel_rfl
theorem po_83 (x x1 x2 : Int) : pOk 3 1 2 (proto 3 [⟨"l0", "c", "b", x⟩] [⟨"g0", "c", x1⟩, ⟨"g1", "a", x2⟩]) = true := by kernel_rfl
theorem po_84 (x x1 x2 : Int) : pOk 3 1 2 (proto 3 [⟨"l0", "c", "b", x⟩] [⟨"g0", "c", x1⟩, ⟨"g1", "b", x2⟩]) = true := by kernel_rfl
theorem po_85 (x x1 x2 : Int) : pOk 3 1 2 (proto 3 [⟨"l0", "c", "b", x⟩] [⟨"g0", "c", x1⟩, ⟨"g1", "c", x2⟩]) = true := by kernel_rfl
theorem good_ok {nb : Nat} {ls : List Ln} {ss : List Sr} (hb : nb = 1 ∨ nb = 2 ∨ nb = 3) (hl : Lns nb ls) (hs : Srs nb ss) (h2 : ls.length < 2) {late : Int} (h0 : 0 ≤ late) (h3 : late ≤ 3) (s : Sto) :
    ∃ gs, GsOk nb ls.length ss.length ls gs ∧ 2 ≤ gs.length ∧ g__law_good [netD nb ls ss, .int late] s = .ok (.list (gs.map Gd.d)) s := by
  have fin : ∀ {nl ns : Nat} {ps : List Pg}, ls.map Ln.nm = nmsL nl → ls.length = nl → ss.length = ns → pOk nb nl ns ps = true → g__law_good [netD nb ls ss, .int late] s = .ok (.list (ps.map fun p => (p.g late).d)) s →
      ∃ gs, GsOk nb ls.length ss.length ls gs ∧ 2 ≤ gs.length ∧ g__law_good [netD nb ls ss, .int late] s = .ok (.list (gs.map Gd.d)) s := fun {nl ns ps} a b c d e => by
    subst b c
    exact ⟨ps.map fun p => p.g late, pOk_is a d h0 h3, by
      simp only [pOk, Bool.and_eq_true, decide_eq_true_eq] at d
      rw [List.length_map]; exact d.1.2, by rw [e, List.map_map]; rfl⟩
  cases hl with
  | none h1 =>
    subst h1
    have ba : ∀ {x : Str}, x ∈ busL 1 → x = "a" := fun {x} h => by simpa [busL] using h
    cases hs with
    | one l o n =>
      obtain ⟨nm, b, x1⟩ := l
      obtain rfl : nm = "g0" := n.trans g0_is
      obtain rfl : b = "a" := ba o.1
      exact fin rfl rfl rfl (po_0 0 x1 0) (gd_0 0 x1 0 late s)
    | two l m o n o2 n2 =>
      obtain ⟨nm, b, x1⟩ := l
      obtain ⟨nm2, b2, x2⟩ := m
      obtain rfl : nm = "g0" := n.trans g0_is
      obtain rfl : b = "a" := ba o.1
      obtain rfl : nm2 = "g1" := n2.trans g1_is
      obtain rfl : b2 = "a" := ba o2.1
      exact fin rfl rfl rfl (po_1 0 x1 x2) (gd_1 0 x1 x2 late s)
  | two => simp at h2
  | one l hn ol nl =>
    obtain ⟨lnm, la, lb, x⟩ := l
    obtain rfl : lnm = "l0" := nl.trans l0_is
    obtain ⟨o1, o2, o3, _⟩ := ol
    rcases hb with rfl | rfl | rfl
    · exact absurd rfl hn

    · have ba : ∀ {x : Str}, x ∈ busL 2 → x = "a" ∨ x = "b" := fun {x} h => by simpa [busL] using h
      have q1 := ba o1
      have q2 := ba o2
      simp only [] at q1 q2 o3
      rcases q1 with rfl | rfl <;> rcases q2 with rfl | rfl
      · exact absurd rfl o3
      · cases hs with
        | one l o n =>
          obtain ⟨nm, b, x1⟩ := l
          obtain rfl : nm = "g0" := n.trans g0_is
          have q3 := ba o.1
          simp only [] at q3
          rcases q3 with rfl | rfl
          · exact fin rfl rfl rfl (po_2 x x1 0) (gd_2 x x1 0 late s)
          · exact fin rfl rfl rfl (po_3 x x1 0) (gd_3 x x1 0 late s)
        | two l m o n o2 n2 =>
          obtain ⟨nm, b, x1⟩ := l
          obtain ⟨nm2, b2, x2⟩ := m
          obtain rfl : nm = "g0" := n.trans g0_is
          obtain rfl : nm2 = "g1" := n2.trans g1_is
          have q3 := ba o.1
          have q4 := ba o2.1
          simp only [] at q3 q4
          rcases q3 with rfl | rfl <;> rcases q4 with rfl | rfl
          · exact fin rfl rfl rfl (po_4 x x1 x2) (gd_4 x x1 x2 late s)
          · exact fin rfl rfl rfl (po_5 x x1 x2) (gd_5 x x1 x2 late s)
          · exact fin rfl rfl rfl (po_6 x x1 x2) (gd_6 x x1 x2 late s)
          · exact fin rfl rfl rfl (po_7 x x1 x2) (gd_7 x x1 x2 late s)
      · cases hs with
        | one l o n =>
          obtain ⟨nm, b, x1⟩ := l
          obtain rfl : nm = "g0" := n.trans g0_is
          have q3 := ba o.1
          simp only [] at q3
          rcases q3 with rfl | rfl
          · exact fin rfl rfl rfl (po_8 x x1 0) (gd_8 x x1 0 late s)
          · exact fin rfl rfl rfl (po_9 x x1 0) (gd_9 x x1 0 late s)
        | two l m o n o2 n2 =>
          obtain ⟨nm, b, x1⟩ := l
          obtain ⟨nm2, b2, x2⟩ := m
          obtain rfl : nm = "g0" := n.trans g0_is
          obtain rfl : nm2 = "g1" := n2.trans g1_is
          have q3 := ba o.1
          have q4 := ba o2.1
          simp only [] at q3 q4
          rcases q3 with rfl | rfl <;> rcases q4 with rfl | rfl
          · exact fin rfl rfl rfl (po_10 x x1 x2) (gd_10 x x1 x2 late s)
          · exact fin rfl rfl rfl (po_11 x x1 x2) (gd_11 x x1 x2 late s)
          · exact fin rfl rfl rfl (po_12 x x1 x2) (gd_12 x x1 x2 late s)
          · exact fin rfl rfl rfl (po_13 x x1 x2) (gd_13 x x1 x2 late s)
      · exact absurd rfl o3
    · have ba : ∀ {x : Str}, x ∈ busL 3 → x = "a" ∨ x = "b" ∨ x = "c" := fun {x} h => by simpa [busL] using h
      have q1 := ba o1
      have q2 := ba o2
      simp only [] at q1 q2 o3
      rcases q1 with rfl | rfl | rfl <;> rcases q2 with rfl | rfl | rfl
      · exact absurd rfl o3
      · cases hs with
        | one l o n =>
          obtain ⟨nm, b, x1⟩ := l
          obtain rfl : nm = "g0" := n.trans g0_is
          have q3 := ba o.1
          simp only [] at q3
          rcases q3 with rfl | rfl | rfl
          · exact fin rfl rfl rfl (po_14 x x1 0) (gd_14 x x1 0 late s)
          · exact fin rfl rfl rfl (po_15 x x1 0) (gd_15 x x1 0 late s)
          · exact fin rfl rfl rfl (po_16 x x1 0) (gd_16 x x1 0 late s)
        | two l m o n o2 n2 =>
          obtain ⟨nm, b, x1⟩ := l
          obtain ⟨nm2, b2, x2⟩ := m
          obtain rfl : nm = "g0" := n.trans g0_is
          obtain rfl : nm2 = "g1" := n2.trans g1_is
          have q3 := ba o.1
          have q4 := ba o2.1
          simp only [] at q3 q4
          rcases q3 with rfl | rfl | rfl <;> rcases q4 with rfl | rfl | rfl
          · exact fin rfl rfl rfl (po_17 x x1 x2) (gd_17 x x1 x2 late s)
          · exact fin rfl rfl rfl (po_18 x x1 x2) (gd_18 x x1 x2 late s)
          · exact fin rfl rfl rfl (po_19 x x1 x2) (gd_19 x x1 x2 late s)
          · exact fin rfl rfl rfl (po_20 x x1 x2) (gd_20 x x1 x2 late s)
          · exact fin rfl rfl rfl (po_21 x x1 x2) (gd_21 x x1 x2 late s)
          · exact fin rfl rfl rfl (po_22 x x1 x2) (gd_22 x x1 x2 late s)
          · exact fin rfl rfl rfl (po_23 x x1 x2) (gd_23 x x1 x2 late s)
          · exact fin rfl rfl rfl (po_24 x x1 x2) (gd_24 x x1 x2 late s)
          · exact fin rfl rfl rfl (po_25 x x1 x2) (gd_25 x x1 x2 late s)
      · cases hs with
        | one l o n =>
          obtain ⟨nm, b, x1⟩ := l
          obtain rfl : nm = "g0" := n.trans g0_is
          have q3 := ba o.1
          simp only [] at q3
          rcases q3 with rfl | rfl | rfl
          · exact fin rfl rfl rfl (po_26 x x1 0) (gd_26 x x1 0 late s)
          · exact fin rfl rfl rfl (po_27 x x1 0) (gd_27 x x1 0 late s)
          · exact fin rfl rfl rfl (po_28 x x1 0) (gd_28 x x1 0 late s)
        | two l m o n o2 n2 =>
          obtain ⟨nm, b, x1⟩ := l
          obtain ⟨nm2, b2, x2⟩ := m
          obtain rfl : nm = "g0" := n.trans g0_is
          obtain rfl : nm2 = "g1" := n2.trans g1_is
          have q3 := ba o.1
          have q4 := ba o2.1
          simp only [] at q3 q4
          rcases q3 with rfl | rfl | rfl <;> rcases q4 with rfl | rfl | rfl
          · exact fin rfl rfl rfl (po_29 x x1 x2) (gd_29 x x1 x2 late s)
          · exact fin rfl rfl rfl (po_30 x x1 x2) (gd_30 x x1 x2 late s)
          · exact fin rfl rfl rfl (po_31 x x1 x2) (gd_31 x x1 x2 late s)
          · exact fin rfl rfl rfl (po_32 x x1 x2) (gd_32 x x1 x2 late s)
          · exact fin rfl rfl rfl (po_33 x x1 x2) (gd_33 x x1 x2 late s)
          · exact fin rfl rfl rfl (po_34 x x1 x2) (gd_34 x x1 x2 late s)
          · exact fin rfl rfl rfl (po_35 x x1 x2) (gd_35 x x1 x2 late s)
          · exact fin rfl rfl rfl (po_36 x x1 x2) (gd_36 x x1 x2 late s)
          · exact fin rfl rfl rfl (po_37 x x1 x2) (gd_37 x x1 x2 late s)
      · cases hs with
        | one l o n =>
          obtain ⟨nm, b, x1⟩ := l
          obtain rfl : nm = "g0" := n.trans g0_is
          have q3 := ba o.1
          simp only [] at q3
          rcases q3 with rfl | rfl | rfl
          · exact fin rfl rfl rfl (po_38 x x1 0) (gd_38 x x1 0 late s)
          · exact fin rfl rfl rfl (po_39 x x1 0) (gd_39 x x1 0 late s)
          · exact fin rfl rfl rfl (po_40 x x1 0) (gd_40 x x1 0 late s)
        | two l m o n o2 n2 =>
          obtain ⟨nm, b, x1⟩ := l
          obtain ⟨nm2, b2, x2⟩ := m
          obtain rfl : nm = "g0" := n.trans g0_is
          obtain rfl : nm2 = "g1" := n2.trans g1_is
          have q3 := ba o.1
          have q4 := ba o2.1
          simp only [] at q3 q4
          rcases q3 with rfl | rfl | rfl <;> rcases q4 with rfl | rfl | rfl
          · exact fin rfl rfl rfl (po_41 x x1 x2) (gd_41 x x1 x2 late s)
          · exact fin rfl rfl rfl (po_42 x x1 x2) (gd_42 x x1 x2 late s)
          · exact fin rfl rfl rfl (po_43 x x1 x2) (gd_43 x x1 x2 late s)
          · exact fin rfl rfl rfl (po_44 x x1 x2) (gd_44 x x1 x2 late s)
          · exact fin rfl rfl rfl (po_45 x x1 x2) (gd_45 x x1 x2 late s)
          · exact fin rfl rfl rfl (po_46 x x1 x2) (gd_46 x x1 x2 late s)
          · exact fin rfl rfl rfl (po_47 x x1 x2) (gd_47 x x1 x2 late s)
          · exact fin rfl rfl rfl (po_48 x x1 x2) (gd_48 x x1 x2 late s)
          · exact fin rfl rfl rfl (po_49 x x1 x2) (gd_49 x x1 x2 late s)
      · exact absurd rfl o3
      · cases hs with
        | one l o n =>
          obtain ⟨nm, b, x1⟩ := l
          obtain rfl : nm = "g0" := n.trans g0_is
          have q3 := ba o.1
          simp only [] at q3
          rcases q3 with rfl | rfl | rfl
          · exact fin rfl rfl rfl (po_50 x x1 0) (gd_50 x x1 0 late s)
          · exact fin rfl rfl rfl (po_51 x x1 0) (gd_51 x x1 0 late s)
          · exact fin rfl rfl rfl (po_52 x x1 0) (gd_52 x x1 0 late s)
        | two l m o n o2 n2 =>
          obtain ⟨nm, b, x1⟩ := l
          obtain ⟨nm2, b2, x2⟩ := m
          obtain rfl : nm = "g0" := n.trans g0_is
          obtain rfl : nm2 = "g1" := n2.trans g1_is
          have q3 := ba o.1
          have q4 := ba o2.1
          simp only [] at q3 q4
          rcases q3 with rfl | rfl | rfl <;> rcases q4 with rfl | rfl | rfl
          · exact fin rfl rfl rfl (po_53 x x1 x2) (gd_53 x x1 x2 late s)
          · exact fin rfl rfl rfl (po_54 x x1 x2) (gd_54 x x1 x2 late s)
          · exact fin rfl rfl rfl (po_55 x x1 x2) (gd_55 x x1 x2 late s)
          · exact fin rfl rfl rfl (po_56 x x1 x2) (gd_56 x x1 x2 late s)
          · exact fin rfl rfl rfl (po_57 x x1 x2) (gd_57 x x1 x2 late s)
          · exact fin rfl rfl rfl (po_58 x x1 x2) (gd_58 x x1 x2 late s)
          · exact fin rfl rfl rfl (po_59 x x1 x2) (gd_59 x x1 x2 late s)
          · exact fin rfl rfl rfl (po_60 x x1 x2) (gd_60 x x1 x2 late s)
          · exact fin rfl rfl rfl (po_61 x x1 x2) (gd_61 x x1 x2 late s)
      · cases hs with
        | one l o n =>
          obtain ⟨nm, b, x1⟩ := l
          obtain rfl : nm = "g0" := n.trans g0_is
          have q3 := ba o.1
          simp only [] at q3
          rcases q3 with rfl | rfl | rfl
          · exact fin rfl rfl rfl (po_62 x x1 0) (gd_62 x x1 0 late s)
          · exact fin rfl rfl rfl (po_63 x x1 0) (gd_63 x x1 0 late s)
          · exact fin rfl rfl rfl (po_64 x x1 0) (gd_64 x x1 0 late s)
        | two l m o n o2 n2 =>
          obtain ⟨nm, b, x1⟩ := l
          obtain ⟨nm2, b2, x2⟩ := m
          obtain rfl : nm = "g0" := n.trans g0_is
          obtain rfl : nm2 = "g1" := n2.trans g1_is
          have q3 := ba o.1
          have q4 := ba o2.1
          simp only [] at q3 q4
          rcases q3 with rfl | rfl | rfl <;> rcases q4 with rfl | rfl | rfl
          · exact fin rfl rfl rfl (po_65 x x1 x2) (gd_65 x x1 x2 late s)
          · exact fin rfl rfl rfl (po_66 x x1 x2) (gd_66 x x1 x2 late s)
          · exact fin rfl rfl rfl (po_67 x x1 x2) (gd_67 x x1 x2 late s)
          · exact fin rfl rfl rfl (po_68 x x1 x2) (gd_68 x x1 x2 late s)
          · exact fin rfl rfl rfl (po_69 x x1 x2) (gd_69 x x1 x2 late s)
          · exact fin rfl rfl rfl (po_70 x x1 x2) (gd_70 x x1 x2 late s)
          · exact fin rfl rfl rfl (po_71 x x1 x2) (gd_71 x x1 x2 late s)
          · exact fin rfl rfl rfl (po_72 x x1 x2) (gd_72 x x1 x2 late s)
          · exact fin rfl rfl rfl (po_73 x x1 x2) (gd_73 x x1 x2 late s)
      · cases hs with
        | one l o n =>
          obtain ⟨nm, b, x1⟩ := l
          obtain rfl : nm = "g0" := n.trans g0_is
          have q3 := ba o.1
          simp only [] at q3
          rcases q3 with rfl | rfl | rfl
          · exact fin rfl rfl rfl (po_74 x x1 0) (gd_74 x x1 0 late s)
          · exact fin rfl rfl rfl (po_75 x x1 0) (gd_75 x x1 0 late s)
          · exact fin rfl rfl rfl (po_76 x x1 0) (gd_76 x x1 0 late s)
        | two l m o n o2 n2 =>
          obtain ⟨nm, b, x1⟩ := l
          obtain ⟨nm2, b2, x2⟩ := m
          obtain rfl : nm = "g0" := n.trans g0_is
          obtain rfl : nm2 = "g1" := n2.trans g1_is
          have q3 := ba o.1
          have q4 := ba o2.1
          simp only [] at q3 q4
          rcases q3 with rfl | rfl | rfl <;> rcases q4 with rfl | rfl | rfl
          · exact fin rfl rfl rfl (po_77 x x1 x2) (gd_77 x x1 x2 late s)
          · exact fin rfl rfl rfl (po_78 x x1 x2) (gd_78 x x1 x2 late s)
          · exact fin rfl rfl rfl (po_79 x x1 x2) (gd_79 x x1 x2 late s)
          · exact fin rfl rfl rfl (po_80 x x1 x2) (gd_80 x x1 x2 late s)
          · exact fin rfl rfl rfl (po_81 x x1 x2) (gd_81 x x1 x2 late s)
          · exact fin rfl rfl rfl (po_82 x x1 x2) (gd_82 x x1 x2 late s)
          · exact fin rfl rfl rfl (po_83 x x1 x2) (gd_83 x x1 x2 late s)
          · exact fin rfl rfl rfl (po_84 x x1 x2) (gd_84 x x1 x2 late s)
          · exact fin rfl rfl rfl (po_85 x x1 x2) (gd_85 x x1 x2 late s)
      · exact absurd rfl o3
end LW
namespace LW
open PySem DL L2
structure Net where
  nb : Nat
  ls : List Ln
  ss : List Sr
  gs : List Gd
  er : Int × Int
  least : Int
  most : Int
  ticks : Int
def Net.d (n : Net) : Dat := .tuple [busD n.nb, .tuple (n.ls.map Ln.d), .tuple (n.ss.map Sr.d), .tuple (n.gs.map Gd.d), .tuple [frD n.er, .int n.least, .int n.most, .int n.ticks]]
structure NetOk (n : Net) : Prop where
  nb : n.nb = 1 ∨ n.nb = 2 ∨ n.nb = 3
  ls : Lns n.nb n.ls
  ss : Srs n.nb n.ss
  gs : GsOk n.nb n.ls.length n.ss.length n.ls n.gs
  er : n.er ∈ ([(0, 1), (1, 10), (1, 4)] : List (Int × Int))
  l1 : 1 ≤ n.least
  l2 : n.least ≤ n.most
  l3 : n.most ≤ 3
  t1 : 1 ≤ n.ticks
  t2 : n.ticks ≤ 13
theorem lns_names {nb : Nat} {ls : List Ln} (h : Lns nb ls) : ls.map Ln.nm = nmsL ls.length ∧ (ls.length = 0 ∨ ls.length = 1 ∨ ls.length = 2) := by
  cases h with
  | none => exact ⟨rfl, .inl rfl⟩
  | one l _ _ n => exact ⟨by simp [n, l0_is]; rfl, .inr (.inl rfl)⟩
  | two l m _ _ n _ n2 => exact ⟨by simp [n, n2, l0_is, l1_is]; rfl, .inr (.inr rfl)⟩
def nmsG (ns : Nat) : List Str := (["g0", "g1"] : List Str).take ns
theorem srs_names {nb : Nat} {ss : List Sr} (h : Srs nb ss) : ss.map Sr.nm = nmsG ss.length ∧ (ss.length = 1 ∨ ss.length = 2) := by
  cases h with
  | one l _ n => exact ⟨by simp [n, g0_is]; rfl, .inl rfl⟩
  | two l m _ n _ n2 => exact ⟨by simp [n, n2, g0_is, g1_is]; rfl, .inr rfl⟩
theorem brs_is {nb : Nat} {ls : List Ln} {ss : List Sr} (h : Lns nb ls) (h2 : Srs nb ss) : brs ls ss = bsC ls.length ss.length := by
  have a := (lns_names h).1
  have b := (srs_names h2).1
  have e0 : ls.map (fun l => (l.nm, (0 : Int))) = (ls.map Ln.nm).map fun x => (x, (0 : Int)) := by rw [List.map_map]; rfl
  have e1 : ls.map (fun l => (l.nm, (1 : Int))) = (ls.map Ln.nm).map fun x => (x, (1 : Int)) := by rw [List.map_map]; rfl
  have e2 : ss.map (fun l => (l.nm, (0 : Int))) = (ss.map Sr.nm).map fun x => (x, (0 : Int)) := by rw [List.map_map]; rfl
  unfold brs bsC
  rw [e0, e1, e2, a, b]
  rfl
theorem guards_loop (cs : List Int) {nb nl ns : Nat} (hb : nb = 1 ∨ nb = 2 ∨ nb = 3) (hl : nl = 0 ∨ nl = 1 ∨ nl = 2) (hs : ns = 1 ∨ ns = 2) {ls : List Ln} (hll : ls.length = nl) (ss : List Sr) (b2 b3 b4 b5 b8 b10 b12 b15 b16 : Slt) :
    ∀ (is : List Int) (gs : List Gd) (k : Int) (b11 b13 b14 b17 : Slt), 0 ≤ k → k + 14 * is.length + 30 < 2 ^ 40 → (∀ i ∈ is, 0 ≤ i ∧ i < 4) → gs.length + is.length ≤ 10 → (∀ g ∈ gs, GdOk nb nl ns ls g) →
    ∃ (hs' : List Gd) (k' : Int) (c11 c13 c14 c17 : Slt), k ≤ k' ∧ k' ≤ k + 14 * is.length ∧ (∀ g ∈ gs ++ hs', GdOk nb nl ns ls g) ∧ hs'.map Gd.nm = is.map (numS "q") ∧
      forL (gSet 11) B6__law_net (is.map PyData.int) [.fz (cel 0), .fz (busD nb), b2, b3, b4, b5, .fz (netD nb ls ss), .fz (.list ((bsC nl ns).map brD)), b8, .ow (.ls (gs.map Gd.d)), b10, b11, b12, b13, b14, b15, b16, b17] (dst cs k) =
      .nx [.fz (cel 0), .fz (busD nb), b2, b3, b4, b5, .fz (netD nb ls ss), .fz (.list ((bsC nl ns).map brD)), b8, .ow (.ls ((gs ++ hs').map Gd.d)), b10, c11, b12, c13, c14, b15, b16, c17] (dst cs k')
  | [], gs, k, b11, b13, b14, b17, _, _, _, _, hg => ⟨[], k, b11, b13, b14, b17, by omega, by simp, by simpa using hg, rfl, by simp⟩
  | i :: is, gs, k, b11, b13, b14, b17, hk, hk2, hi, hn, hg => by
    simp only [List.length_cons] at hk2 hn
    push_cast at hk2
    obtain ⟨g, k1, c13, c14, c17, p1, p2, p3, p4, p5⟩ := guard_step cs k hk (by omega) hb hl hs hll ss b2 b3 b4 b5 b8 b10 b12 b13 b14 b15 b16 b17 (gs.map Gd.d) (by simp; omega) i (hi i (by simp)).1 (hi i (by simp)).2
    obtain ⟨hs', k2, d11, d13, d14, d17, q1, q2, q3, q4, q5⟩ := guards_loop cs hb hl hs hll ss b2 b3 b4 b5 b8 b10 b12 b15 b16 is (gs ++ [g]) k1 (.fz (.int i)) c13 c14 c17 (by omega) (by omega) (fun j hj => hi j (List.mem_cons_of_mem _ hj)) (by simp; omega) (fun x hx => by
      rcases List.mem_append.mp hx with h | h
      · exact hg x h
      · rw [List.mem_singleton.mp h]; exact p3)
    refine ⟨g :: hs', k2, d11, d13, d14, d17, by omega, by simp only [List.length_cons]; push_cast; omega, by simpa using q3, by simp [p4, q4], ?_⟩
    rw [List.map_append] at q5
    simp only [List.map_cons, List.map_nil] at q5
    have e : gs ++ g :: hs' = gs ++ [g] ++ hs' := by simp
    rw [e]
    simp only [List.map_cons, forL]
    simp only [gSet]
    simp [Res.noex, p5]
    simpa using q5
theorem srcs_ok (cs : List Int) (k : Int) (hk : 0 ≤ k) (hk2 : k + 10 < 2 ^ 40) {nb : Nat} (hb : nb = 1 ∨ nb = 2 ∨ nb = 3) (e : Lcs) (h0 : e[0]? = some (.fz (cel 0))) (h1 : e[1]? = some (.fz (busD nb))) (hn : 12 < e.length) :
    ∃ ss k', k ≤ k' ∧ k' ≤ k + 5 ∧ Srs nb ss ∧ (fCall gTupOf2 (fCons (fLc (fItA gRng1 (fCons (fBin gAdd (fC (.int 1)) (fCallD g__law_next (fCons (fVar 0) (fCons (fC (.int 2)) fNil)))) fNil)) (gSet 12) cYes E1__law_net [12]) fNil)) e (dst cs k) = .ok (.tuple (ss.map Sr.d)) (dst cs k') := by
  have r1 : cRng 1 = true := by decide
  have r2 : cRng 2 = true := by decide
  obtain ⟨v, v0, v1, e1⟩ := next_ok cs k 2 hk (by omega) (by decide)
  have g0 : ∀ (i : Int), ((e.set 12 .un).set 12 (.fz (.int i)))[0]? = some (.fz (cel 0)) := fun i => by rw [List.getElem?_set_ne (by decide), List.getElem?_set_ne (by decide)]; exact h0
  have g1 : ∀ (i : Int), ((e.set 12 .un).set 12 (.fz (.int i)))[1]? = some (.fz (busD nb)) := fun i => by rw [List.getElem?_set_ne (by decide), List.getElem?_set_ne (by decide)]; exact h1
  have g12 : ∀ (i : Int), ((e.set 12 .un).set 12 (.fz (.int i)))[12]? = some (.fz (.int i)) := fun i => by simp [hn]
  obtain ⟨l, o1, o2, e2⟩ := source_step cs (k + 1) (by omega) (by omega) hb ((e.set 12 .un).set 12 (.fz (.int 0))) 0 (by decide) (by decide) (g0 0) (g1 0) (g12 0)
  rcases (by omega : v = 0 ∨ v = 1) with rfl | rfl
  · refine ⟨[l], k + 1 + 2, by omega, by omega, .one l o1 o2, ?_⟩
    unfold dst at *
    simp at e2
    simp [h0, e1, ups_1, r1, e2, hn, Res.noex]
  · obtain ⟨m, p1, p2, e3⟩ := source_step cs (k + 1 + 2) (by omega) (by omega) hb ((e.set 12 .un).set 12 (.fz (.int 1))) 1 (by decide) (by decide) (g0 1) (g1 1) (g12 1)
    refine ⟨[l, m], k + 1 + 2 + 2, by omega, by omega, .two l m o1 o2 p1 p2, ?_⟩
    unfold dst at *
    simp at e2 e3
    simp [h0, e1, ups_2, r2, e2, e3, hn, Res.noex]
end LW
namespace LW
open PySem DL L2
theorem lc_map {α : Type} (f g : α → Dat) (n : Nat) (Fe : FE) (s : Sto) {e : Lcs} (hn : n < e.length) (hE : ∀ (a : α) (e : Lcs), e[n]? = some (.fz (f a)) → Fe e s = .ok (g a) s) : ∀ xs : List α, lcL (gSet n) cYes Fe e (xs.map f) s = .ok (xs.map g) s
  | [] => rfl
  | a :: xs => by
    have h2 := hE a (e.set n (.fz (f a))) (by simp [hn])
    simp [hn, h2, Res.noex, lc_map f g n Fe s hn hE xs]
def N7 (nb : Nat) (ls : List Ln) (ss : List Sr) (least most : Int) (s8 s9 s10 s11 s12 s13 s14 s17 : Slt) : Lcs :=
  [.fz (cel 0), .fz (busD nb), .fz (.tuple (ls.map Ln.d)), .fz (.tuple (ss.map Sr.d)), .fz (.int least), .fz (.int most), .fz (netD nb ls ss), .fz (.list ((bsC ls.length ss.length).map brD)), s8, s9, s10, s11, s12, s13, s14, .un, .un, s17]
theorem brks_ok {nb : Nat} {ls : List Ln} {ss : List Sr} (hl : Lns nb ls) (hs : Srs nb ss) {e : Lcs} (s : Sto) (h2 : e[2]? = some (.fz (.tuple (ls.map Ln.d)))) (h3 : e[3]? = some (.fz (.tuple (ss.map Sr.d)))) (hn : 16 < e.length) :
    (fBin gAdd (fBin gAdd (fLc (fIter (fVar 2)) (gSet 16) cYes E2__law_net [16]) (fLc (fIter (fVar 2)) (gSet 16) cYes E3__law_net [16])) (fLc (fIter (fVar 3)) (gSet 15) cYes E4__law_net [15])) e s = .ok (.list ((bsC ls.length ss.length).map brD)) s := by
  have a := lc_map Ln.d (fun l => brD (l.nm, 0)) 16 E2__law_net s (e := e.set 16 .un) (by simpa using hn) (fun l e h => by unfold E2__law_net; simp [h, Ln.d, brD]) ls
  have b := lc_map Ln.d (fun l => brD (l.nm, 1)) 16 E3__law_net s (e := e.set 16 .un) (by simpa using hn) (fun l e h => by unfold E3__law_net; simp [h, Ln.d, brD]) ls
  have c := lc_map Sr.d (fun l => brD (l.nm, 0)) 15 E4__law_net s (e := e.set 15 .un) (by simp; omega) (fun l e h => by unfold E4__law_net; simp [h, Sr.d, brD]) ss
  have l1 := (lns_names hl).2
  have l2 := (srs_names hs).2
  have z1 : ls.length < 16777216 := by omega
  have z2 : ss.length < 16777216 := by omega
  have z3 : ls.length + ls.length ≤ 16777216 := by omega
  have z4 : ls.length + ls.length + ss.length ≤ 16777216 := by omega
  rw [← brs_is hl hs]
  have e1 : (brs ls ss).map brD = ls.map (fun l => brD (l.nm, 0)) ++ ls.map (fun l => brD (l.nm, 1)) ++ ss.map (fun l => brD (l.nm, 0)) := by
    unfold brs
    simp only [List.map_append, List.map_map]
    rfl
  rw [e1]
  simp [h2, h3, a, b, c, z1, z2, z3, z4]
theorem drop_one {nb nl ns : Nat} {ls : List Ln} {gs : List Gd} (h : GsOk nb nl ns ls gs) (h2 : 2 ≤ gs.length) {j : Nat} (hj : j < gs.length) : GsOk nb nl ns ls (gs.take j ++ gs.drop (j + 1)) := by
  have sub : (gs.take j ++ gs.drop (j + 1)).Sublist gs := by
    have e : gs.take j ++ gs.drop (j + 1) = gs.eraseIdx j := by rw [List.eraseIdx_eq_take_drop_succ]
    rw [e]
    exact List.eraseIdx_sublist ..
  refine ⟨fun g hg => h.each g (sub.subset hg), (h.nd).sublist (sub.map _), ?_, ?_⟩
  · rw [List.length_append, List.length_take, List.length_drop]; omega
  · have := sub.length_le
    have := h.le
    omega
end LW
namespace LW
open PySem DL L2
def Nt0 : FS := (sSet 1 (fSl (fTup (fCons (fC (.str "a")) (fCons (fC (.str "b")) (fCons (fC (.str "c")) fNil)))) fNo (fSome (fBin gAdd (fC (.int 1)) (fCallD g__law_next (fCons (fVar 0) (fCons (fC (.int 3)) fNil)))))))
def Nt1 : FS := (sSet 2 (fCallD g__law_lines (fCons (fVar 0) (fCons (fVar 1) fNil))))
def Nt2 : FS := (sSet 3 (fCall gTupOf2 (fCons (fLc (fItA gRng1 (fCons (fBin gAdd (fC (.int 1)) (fCallD g__law_next (fCons (fVar 0) (fCons (fC (.int 2)) fNil)))) fNil)) (gSet 12) cYes E1__law_net [12]) fNil)))
def Nt3 : FS := (sSet 4 (fBin gAdd (fC (.int 1)) (fCallD g__law_next (fCons (fVar 0) (fCons (fC (.int 2)) fNil)))))
def Nt4 : FS := (sSet 5 (fBin gAdd (fVar 4) (fCallD g__law_next (fCons (fVar 0) (fCons (fC (.int 2)) fNil)))))
def Nt5 : FS := (sSet 6 (fTup (fCons (fVar 1) (fCons (fVar 2) (fCons (fVar 3) fNil)))))
def Nt6 : FS := (sSet 7 (fBin gAdd (fBin gAdd (fLc (fIter (fVar 2)) (gSet 16) cYes E2__law_net [16]) (fLc (fIter (fVar 2)) (gSet 16) cYes E3__law_net [16])) (fLc (fIter (fVar 3)) (gSet 15) cYes E4__law_net [15])))
def Nt7 : FS := (sIf (fAnd (fB (fBin gEq (fCallD g__law_next (fCons (fVar 0) (fCons (fC (.int 3)) fNil))) (fC (.int 0)))) (fB (fBin gLt2 (fCall gLen2 (fCons (fVar 2) fNil)) (fC (.int 2))))) (sSeq (sSet 9 (fCallD g__law_good (fCons (fVar 6) (fCons (fIf (fB (fBin gGt2 (fCallD g__law_next (fCons (fVar 0) (fCons (fC (.int 4)) fNil))) (fC (.int 0)))) (fVar 5) (fBin gSub (fVar 5) (fC (.int 1)))) fNil))))
    (sSeq (sIf (fB (fBin gEq (fCallD g__law_next (fCons (fVar 0) (fCons (fC (.int 3)) fNil))) (fC (.int 0)))) (sSeq (sSet 12 (fCallD g__law_next (fCons (fVar 0) (fCons (fLenOwn 9) fNil))))
    (sFreeze 9 (sOwnN 9 (nCat (fSl (fVar 9) fNo (fSome (fVar 12))) (fSl (fVar 9) (fSome (fBin gAdd (fVar 12) (fC (.int 1)))) fNo))))) sNext)
    (sSet 10 (fBin gAdd (fBin gMul2 (fC (.int 3)) (fVar 5)) (fC (.int 4)))))) (sSeq (sParOwn 9 10 fNil (fBin gAdd (fC (.int 3)) (fCallD g__law_next (fCons (fVar 0) (fCons (fC (.int 9)) fNil)))))
    (sFor (fItA gRng1 (fCons (fBin gAdd (fC (.int 1)) (fCallD g__law_next (fCons (fVar 0) (fCons (fC (.int 4)) fNil)))) fNil)) (gSet 11) B6__law_net)))
def Nt8 : FS := (sSet 8 (fCallD g__law_pick (fCons (fVar 0) (fCons (fLst (fCons (fTup (fCons (fC (.int 0)) (fCons (fC (.int 1)) fNil))) (fCons (fTup (fCons (fC (.int 0)) (fCons (fC (.int 1)) fNil))) (fCons (fTup (fCons (fC (.int 1)) (fCons (fC (.int 10)) fNil))) (fCons (fTup (fCons (fC (.int 1)) (fCons (fC (.int 4)) fNil))) fNil))))) fNil))))
def Nt9 : FS := (sFreeze 9 (sRet (fBin gAdd (fVar 6) (fTup (fCons (fCall gTupOf2 (fCons (fSl (fVar 9) fNo (fSome (fC (.int 16)))) fNil)) (fCons (fTup (fCons (fVar 8) (fCons (fVar 4) (fCons (fVar 5) (fCons (fVar 10) fNil))))) fNil))))))
theorem Ntis : F__law_net = (sSeq Nt0 (sSeq Nt1 (sSeq Nt2 (sSeq Nt3 (sSeq Nt4 (sSeq Nt5 (sSeq Nt6 (sSeq Nt7 (sSeq Nt8 Nt9))))))))) := rfl
def NtC : FT := (fAnd (fB (fBin gEq (fCallD g__law_next (fCons (fVar 0) (fCons (fC (.int 3)) fNil))) (fC (.int 0)))) (fB (fBin gLt2 (fCall gLen2 (fCons (fVar 2) fNil)) (fC (.int 2)))))
def NtA0 : FS := (sSet 9 (fCallD g__law_good (fCons (fVar 6) (fCons (fIf (fB (fBin gGt2 (fCallD g__law_next (fCons (fVar 0) (fCons (fC (.int 4)) fNil))) (fC (.int 0)))) (fVar 5) (fBin gSub (fVar 5) (fC (.int 1)))) fNil))))
def NtA1 : FS := (sIf (fB (fBin gEq (fCallD g__law_next (fCons (fVar 0) (fCons (fC (.int 3)) fNil))) (fC (.int 0)))) (sSeq (sSet 12 (fCallD g__law_next (fCons (fVar 0) (fCons (fLenOwn 9) fNil))))
    (sFreeze 9 (sOwnN 9 (nCat (fSl (fVar 9) fNo (fSome (fVar 12))) (fSl (fVar 9) (fSome (fBin gAdd (fVar 12) (fC (.int 1)))) fNo))))) sNext)
def NtA2 : FS := (sSet 10 (fBin gAdd (fBin gMul2 (fC (.int 3)) (fVar 5)) (fC (.int 4))))
def NtB0 : FS := (sParOwn 9 10 fNil (fBin gAdd (fC (.int 3)) (fCallD g__law_next (fCons (fVar 0) (fCons (fC (.int 9)) fNil)))))
def NtB1 : FS := (sFor (fItA gRng1 (fCons (fBin gAdd (fC (.int 1)) (fCallD g__law_next (fCons (fVar 0) (fCons (fC (.int 4)) fNil)))) fNil)) (gSet 11) B6__law_net)
def NtL : FE := (fIf (fB (fBin gGt2 (fCallD g__law_next (fCons (fVar 0) (fCons (fC (.int 4)) fNil))) (fC (.int 0)))) (fVar 5) (fBin gSub (fVar 5) (fC (.int 1))))
def NtD : FT := (fB (fBin gEq (fCallD g__law_next (fCons (fVar 0) (fCons (fC (.int 3)) fNil))) (fC (.int 0))))
def NtE0 : FS := (sSet 12 (fCallD g__law_next (fCons (fVar 0) (fCons (fLenOwn 9) fNil))))
def NtE1 : FS := (sFreeze 9 (sOwnN 9 (nCat (fSl (fVar 9) fNo (fSome (fVar 12))) (fSl (fVar 9) (fSome (fBin gAdd (fVar 12) (fC (.int 1)))) fNo))))
theorem Nt7is : Nt7 = sIf NtC (sSeq NtA0 (sSeq NtA1 NtA2)) (sSeq NtB0 NtB1) := rfl
theorem NtA1is : NtA1 = sIf NtD (sSeq NtE0 NtE1) sNext := rfl
theorem NtA0is : NtA0 = sSet 9 (fCallD g__law_good (fCons (fVar 6) (fCons NtL fNil))) := rfl
theorem cut_take {xs : List Dat} {j : Nat} (h : j ≤ xs.length) : cutD xs none (some (j : Int)) = xs.take j := by
  have e : ¬ ((j : Int) < 0) := by omega
  unfold cutD HT.sIx
  simp [h, e]
theorem cut_drop {xs : List Dat} {j : Nat} (h : j ≤ xs.length) : cutD xs (some (j : Int)) none = xs.drop j := by
  have e : ¬ ((j : Int) < 0) := by omega
  unfold cutD HT.sIx
  simp only [e, if_false, Int.toNat_natCast, Nat.min_eq_left h]
  exact List.take_of_length_le (by simp)
theorem if_t {C : FT} {A B : FS} {e : Lcs} {s s1 : Sto} (h : C e s = .ok true s1) : sIf C A B e s = A e s1 := by simp [h]
theorem if_f {C : FT} {A B : FS} {e : Lcs} {s s1 : Sto} (h : C e s = .ok false s1) : sIf C A B e s = B e s1 := by simp [h]
def Sl9 (s9 : Slt) (ds : List Dat) : Prop := s9 = .fz (.list ds) ∨ s9 = .ow (.ls ds)
theorem rng_is {j : Int} {n : Nat} (cr : cRng j = true) (tn : j.toNat = n) (s : Sto) : gRng1 [.int j] s = .ok (ups 0 n) s := by
  simp only [gRng1]
  rw [if_pos cr, tn]
theorem it_ok (cs : List Int) (k : Int) (z : Nat) (e : Lcs) (h0 : e[0]? = some (.fz (cel 0))) (e3 : g__law_next [cel 0, .int 4] (dst cs (k + 1 + 1)) = .ok (.int z) (dst cs (k + 1 + 1 + 1))) (cr : cRng (1 + (z : Int)) = true) :
    (fItA gRng1 (fCons (fBin gAdd (fC (.int 1)) (fCallD g__law_next (fCons (fVar 0) (fCons (fC (.int 4)) fNil)))) fNil)) e (dst cs (k + 1 + 1)) = .ok (ups 0 (1 + z)) (dst cs (k + 1 + 1 + 1)) := by
  have tn : (1 + (z : Int)).toNat = 1 + z := by omega
  have r := rng_is cr tn (dst cs (k + 1 + 1 + 1))
  generalize hs1 : dst cs (k + 1 + 1) = s1 at *
  generalize hs2 : dst cs (k + 1 + 1 + 1) = s2 at *
  generalize gRng1 = gr at *
  simp only [fItA, fCons, fBin, fC, fCallD, fNil, fVar, h0, Res.bind, e3, Res.noex, gAdd, r]
theorem nt7_A (cs : List Int) (k : Int) (hk : 0 ≤ k) (hk2 : k + 200 < 2 ^ 40) {nb : Nat} {ls : List Ln} {ss : List Sr} (hb : nb = 1 ∨ nb = 2 ∨ nb = 3) (hl : Lns nb ls) (hs : Srs nb ss) {least most : Int} (m1 : 1 ≤ most) (m3 : most ≤ 3) {v : Int} (e1 : g__law_next [cel 0, .int 3] (dst cs k) = .ok (.int v) (dst cs (k + 1))) (c : v = 0 ∧ ls.length < 2) :
    ∃ gs k' ticks s9 s11 s12 s13 s14 s17, k ≤ k' ∧ k' ≤ k + 100 ∧ GsOk nb ls.length ss.length ls gs ∧ 1 ≤ ticks ∧ ticks ≤ 13 ∧ Sl9 s9 (gs.map Gd.d) ∧
      Nt7 (N7 nb ls ss least most .un .un .un .un .un .un .un .un) (dst cs k) = .nx (N7 nb ls ss least most .un s9 (.fz (.int ticks)) s11 s12 s13 s14 s17) (dst cs k') := by
  have nl := (lns_names hl).2
  have nsn := (srs_names hs).2
  rw [Nt7is]
  obtain ⟨c1, c2⟩ := c
  subst c1
  obtain ⟨y, y0, y1, e2⟩ := next_ok cs (k + 1) 4 (by omega) (by omega) (by decide)
  obtain ⟨late, lt0, lt3, e3⟩ : ∃ late : Int, 0 ≤ late ∧ late ≤ 3 ∧ NtL (N7 nb ls ss least most .un .un .un .un .un .un .un .un) (dst cs (k + 1)) = .ok (.int late) (dst cs (k + 1 + 1)) := by
    by_cases hy : 0 < y
    · refine ⟨most, by omega, m3, ?_⟩
      unfold NtL N7
      simp [e2, hy]
    · refine ⟨most - 1, by omega, by omega, ?_⟩
      unfold NtL N7
      simp [e2, hy]
  obtain ⟨gs, g1, g2, e4⟩ := good_ok hb hl hs c2 lt0 lt3 (dst cs (k + 1 + 1))
  have g3 := g1.le
  obtain ⟨z, z0, z1, e5⟩ := next_ok cs (k + 1 + 1) 3 (by omega) (by omega) (by decide)
  have cm : cMul 3 most = true := mul_ok (by decide) (by decide) (by omega) (by omega)
  have ll : (ls.length : Int) < 2 := by omega
  have q0 : NtC (N7 nb ls ss least most .un .un .un .un .un .un .un .un) (dst cs k) = .ok true (dst cs (k + 1)) := by
    unfold NtC N7
    simp [e1, ll]
  have q1 : NtA0 (N7 nb ls ss least most .un .un .un .un .un .un .un .un) (dst cs (k + 1)) = .nx (N7 nb ls ss least most .un (.fz (.list (gs.map Gd.d))) .un .un .un .un .un .un) (dst cs (k + 1 + 1)) := by
    rw [NtA0is]
    refine set_is (d := .list (gs.map Gd.d)) ?_ (by simp [N7])
    have h6 : (N7 nb ls ss least most .un .un .un .un .un .un .un .un)[6]? = some (.fz (netD nb ls ss)) := rfl
    simp only [fCallD, fCons, fNil, fVar, h6, Res.bind, e3, e4, Res.noex]
  have q3 : ∀ s9 s12 s, NtA2 (N7 nb ls ss least most .un s9 .un .un s12 .un .un .un) s = .nx (N7 nb ls ss least most .un s9 (.fz (.int (3 * most + 4))) .un s12 .un .un .un) s := fun s9 s12 s => by
    unfold NtA2 N7
    simp [cm]
  rw [if_t q0, sq q1]
  by_cases hz : z = 0
  · subst hz
    obtain ⟨j, j0, j1, e6⟩ := next_ok cs (k + 1 + 1 + 1) gs.length (by omega) (by omega) (by omega)
    obtain ⟨j, rfl⟩ : ∃ n : Nat, j = n := ⟨j.toNat, by omega⟩
    have hj : j < gs.length := by omega
    have t1 : cutD (gs.map Gd.d) none (some (j : Int)) = (gs.take j).map Gd.d := by rw [cut_take (by simp; omega), List.map_take]
    have t2 : cutD (gs.map Gd.d) (some ((j : Int) + 1)) none = (gs.drop (j + 1)).map Gd.d := by
      have := cut_drop (xs := gs.map Gd.d) (j := j + 1) (by simp; omega)
      rw [← List.map_drop] at this
      exact_mod_cast this
    have tl : (min j gs.length) + (gs.length - (j + 1)) ≤ 16777216 := by omega
    have q2 : NtA1 (N7 nb ls ss least most .un (.fz (.list (gs.map Gd.d))) .un .un .un .un .un .un) (dst cs (k + 1 + 1)) = .nx (N7 nb ls ss least most .un (.ow (.ls ((gs.take j ++ gs.drop (j + 1)).map Gd.d))) .un .un (.fz (.int j)) .un .un .un) (dst cs (k + 1 + 1 + 1 + 1)) := by
      rw [NtA1is]
      have r0 : NtD (N7 nb ls ss least most .un (.fz (.list (gs.map Gd.d))) .un .un .un .un .un .un) (dst cs (k + 1 + 1)) = .ok true (dst cs (k + 1 + 1 + 1)) := by
        unfold NtD N7
        simp [e5]
      have r1 : NtE0 (N7 nb ls ss least most .un (.fz (.list (gs.map Gd.d))) .un .un .un .un .un .un) (dst cs (k + 1 + 1 + 1)) = .nx (N7 nb ls ss least most .un (.fz (.list (gs.map Gd.d))) .un .un (.fz (.int j)) .un .un .un) (dst cs (k + 1 + 1 + 1 + 1)) := by
        unfold NtE0 N7
        simp [e6]
      rw [if_t r0, sq r1]
      unfold NtE1 N7
      simp [frz, t1, t2, tl]
    rw [sq q2, q3]
    exact ⟨gs.take j ++ gs.drop (j + 1), k + 1 + 1 + 1 + 1, 3 * most + 4, .ow (.ls ((gs.take j ++ gs.drop (j + 1)).map Gd.d)), .un, .fz (.int j), .un, .un, .un, by omega, by omega, drop_one g1 g2 hj, by omega, by omega, .inr rfl, rfl⟩
  · have q2 : NtA1 (N7 nb ls ss least most .un (.fz (.list (gs.map Gd.d))) .un .un .un .un .un .un) (dst cs (k + 1 + 1)) = .nx (N7 nb ls ss least most .un (.fz (.list (gs.map Gd.d))) .un .un .un .un .un .un) (dst cs (k + 1 + 1 + 1)) := by
      rw [NtA1is]
      have r0 : NtD (N7 nb ls ss least most .un (.fz (.list (gs.map Gd.d))) .un .un .un .un .un .un) (dst cs (k + 1 + 1)) = .ok false (dst cs (k + 1 + 1 + 1)) := by
        unfold NtD N7
        have : (z == 0) = false := by simpa using hz
        simp [e5, this]
      rw [if_f r0]
      rfl
    rw [sq q2, q3]
    exact ⟨gs, k + 1 + 1 + 1, 3 * most + 4, .fz (.list (gs.map Gd.d)), .un, .un, .un, .un, .un, by omega, by omega, g1, by omega, by omega, .inl rfl, rfl⟩
theorem nt7_B (cs : List Int) (k : Int) (hk : 0 ≤ k) (hk2 : k + 200 < 2 ^ 40) {nb : Nat} {ls : List Ln} {ss : List Sr} (hb : nb = 1 ∨ nb = 2 ∨ nb = 3) (hl : Lns nb ls) (hs : Srs nb ss) {least most : Int} (m1 : 1 ≤ most) (m3 : most ≤ 3) {v : Int} (e1 : g__law_next [cel 0, .int 3] (dst cs k) = .ok (.int v) (dst cs (k + 1))) (c : ¬ (v = 0 ∧ ls.length < 2)) :
    ∃ gs k' ticks s9 s11 s12 s13 s14 s17, k ≤ k' ∧ k' ≤ k + 100 ∧ GsOk nb ls.length ss.length ls gs ∧ 1 ≤ ticks ∧ ticks ≤ 13 ∧ Sl9 s9 (gs.map Gd.d) ∧
      Nt7 (N7 nb ls ss least most .un .un .un .un .un .un .un .un) (dst cs k) = .nx (N7 nb ls ss least most .un s9 (.fz (.int ticks)) s11 s12 s13 s14 s17) (dst cs k') := by
  have nl := (lns_names hl).2
  have nsn := (srs_names hs).2
  rw [Nt7is]
  obtain ⟨y, y0, y1, e2⟩ := next_ok cs (k + 1) 9 (by omega) (by omega) (by decide)
  obtain ⟨z, z0, z1, e3⟩ := next_ok cs (k + 1 + 1) 4 (by omega) (by omega) (by decide)
  obtain ⟨z, rfl⟩ : ∃ n : Nat, z = n := ⟨z.toNat, by omega⟩
  have q0 : NtC (N7 nb ls ss least most .un .un .un .un .un .un .un .un) (dst cs k) = .ok false (dst cs (k + 1)) := by
    unfold NtC N7
    by_cases h : v = 0
    · have h2 : ¬ (ls.length : Int) < 2 := fun q => c ⟨h, by omega⟩
      subst h
      simp [e1, h2]
    · have : (v == 0) = false := by simpa using h
      simp [e1, this]
  have q1 : NtB0 (N7 nb ls ss least most .un .un .un .un .un .un .un .un) (dst cs (k + 1)) = .nx (N7 nb ls ss least most .un (.ow (.ls [])) (.fz (.int (3 + y))) .un .un .un .un .un) (dst cs (k + 1 + 1)) := by
    unfold NtB0 N7
    simp [e2]
  have isl : ∀ i ∈ (List.range (1 + z)).map (fun (i : Nat) => (i : Int)), 0 ≤ i ∧ i < 4 := fun i hi => by
    obtain ⟨n, hn, rfl⟩ := List.mem_map.mp hi
    have := List.mem_range.mp hn
    omega
  obtain ⟨gs, k', c11, c13, c14, c17, p1, p2, p3, p4, p5⟩ := guards_loop cs hb nl nsn (ls := ls) rfl ss (.fz (.tuple (ls.map Ln.d))) (.fz (.tuple (ss.map Sr.d))) (.fz (.int least)) (.fz (.int most)) .un (.fz (.int (3 + y))) .un .un .un
    ((List.range (1 + z)).map (fun (i : Nat) => (i : Int))) [] (k + 1 + 1 + 1) .un .un .un .un (by omega) (by simp; omega) isl (by simp; omega) (fun g hg => by simp at hg)
  have gl : gs.length = 1 + z := by
    have := congrArg List.length p4
    simpa using this
  simp only [List.nil_append] at p3 p5
  have q2 : NtB1 (N7 nb ls ss least most .un (.ow (.ls [])) (.fz (.int (3 + y))) .un .un .un .un .un) (dst cs (k + 1 + 1)) = .nx (N7 nb ls ss least most .un (.ow (.ls (gs.map Gd.d))) (.fz (.int (3 + y))) c11 .un c13 c14 c17) (dst cs k') := by
    have cr : cRng (1 + (z : Int)) = true := by unfold cRng; rw [decide_eq_true (by omega), decide_eq_true (by omega)]; rfl
    have it := it_ok cs k z (N7 nb ls ss least most .un (.ow (.ls [])) (.fz (.int (3 + y))) .un .un .un .un .un) rfl e3 cr
    have eu : ups 0 (1 + z) = ((List.range (1 + z)).map (fun (i : Nat) => (i : Int))).map PyData.int := by
      unfold ups
      rw [List.map_map]
      apply List.map_congr_left
      intro i _
      simp
    unfold NtB1
    rw [sFor, it]
    show forL (gSet 11) B6__law_net (ups 0 (1 + z)) _ _ = _
    rw [eu]
    unfold N7
    exact p5
  rw [if_f q0, sq q1, q2]
  have nmi : ∀ i : Int, 0 ≤ i → i < 4 → numS "q" i ∈ GN := fun i h0 h4 => by
    rcases (by omega : i = 0 ∨ i = 1 ∨ i = 2 ∨ i = 3) with rfl | rfl | rfl | rfl <;> decide +kernel
  have gok : GsOk nb ls.length ss.length ls gs := by
    refine ⟨fun g hg => ⟨p3 g hg, ?_⟩, ?_, by omega, by omega⟩
    · have : g.nm ∈ gs.map Gd.nm := List.mem_map_of_mem hg
      rw [p4] at this
      obtain ⟨i, hi, e⟩ := List.mem_map.mp this
      rw [← e]
      exact nmi i (isl i hi).1 (isl i hi).2
    · rw [p4]
      rcases (by omega : z = 0 ∨ z = 1 ∨ z = 2 ∨ z = 3) with rfl | rfl | rfl | rfl <;> decide +kernel
  exact ⟨gs, k', 3 + y, .ow (.ls (gs.map Gd.d)), c11, .un, c13, c14, c17, by omega, by simp at p2; omega, gok, by omega, by omega, .inr rfl, rfl⟩
theorem nt7_ok (cs : List Int) (k : Int) (hk : 0 ≤ k) (hk2 : k + 200 < 2 ^ 40) {nb : Nat} {ls : List Ln} {ss : List Sr} (hb : nb = 1 ∨ nb = 2 ∨ nb = 3) (hl : Lns nb ls) (hs : Srs nb ss) {least most : Int} (m1 : 1 ≤ most) (m3 : most ≤ 3) :
    ∃ gs k' ticks s9 s11 s12 s13 s14 s17, k ≤ k' ∧ k' ≤ k + 100 ∧ GsOk nb ls.length ss.length ls gs ∧ 1 ≤ ticks ∧ ticks ≤ 13 ∧ Sl9 s9 (gs.map Gd.d) ∧
      Nt7 (N7 nb ls ss least most .un .un .un .un .un .un .un .un) (dst cs k) = .nx (N7 nb ls ss least most .un s9 (.fz (.int ticks)) s11 s12 s13 s14 s17) (dst cs k') := by
  obtain ⟨v, v0, v1, e1⟩ := next_ok cs k 3 hk (by omega) (by decide)
  by_cases c : v = 0 ∧ ls.length < 2
  · exact nt7_A cs k hk hk2 hb hl hs m1 m3 e1 c
  · exact nt7_B cs k hk hk2 hb hl hs m1 m3 e1 c
end LW
namespace LW
open PySem DL L2
def F0 (s1 s2 s3 s4 s5 s6 s7 : Slt) : Lcs := [.fz (cel 0), s1, s2, s3, s4, s5, s6, s7, .un, .un, .un, .un, .un, .un, .un, .un, .un, .un]
theorem nt0_ok (cs : List Int) (k : Int) (n : Nat) (hn : n < 3) (e : g__law_next [cel 0, .int 3] (dst cs k) = .ok (.int n) (dst cs (k + 1))) : Nt0 (F0 .un .un .un .un .un .un .un) (dst cs k) = .nx (F0 (.fz (busD (1 + n))) .un .un .un .un .un .un) (dst cs (k + 1)) := by
  have hc : cutD [PyData.str "a", .str "b", .str "c"] none (some (1 + (n : Int))) = (busL (1 + n)).map PyData.str := by
    rcases (by omega : n = 0 ∨ n = 1 ∨ n = 2) with rfl | rfl | rfl <;> rfl
  unfold Nt0 F0 busD
  simp [e, hc]
theorem net_ok (cs : List Int) (k : Int) (hk : 0 ≤ k) (hk2 : k + 300 < 2 ^ 40) :
    ∃ (n : Net) (k' : Int), k ≤ k' ∧ k' ≤ k + 200 ∧ NetOk n ∧ g__law_net [cel 0] (dst cs k) = .ok n.d (dst cs k') := by
  obtain ⟨v, v0, v1, e1⟩ := next_ok cs k 3 hk (by omega) (by decide)
  obtain ⟨v, rfl⟩ : ∃ n : Nat, v = n := ⟨v.toNat, by omega⟩
  have q0 := nt0_ok cs k v (by omega) e1
  obtain ⟨nb, hnb⟩ : ∃ nb, nb = 1 + v := ⟨_, rfl⟩
  have hb : nb = 1 ∨ nb = 2 ∨ nb = 3 := by omega
  rw [← hnb] at q0
  obtain ⟨ls, k1, a1, a2, hl, e2⟩ := lines_ok cs (k + 1) (by omega) (by omega) hb
  have q1 : Nt1 (F0 (.fz (busD nb)) .un .un .un .un .un .un) (dst cs (k + 1)) = .nx (F0 (.fz (busD nb)) (.fz (.tuple (ls.map Ln.d))) .un .un .un .un .un) (dst cs k1) := by
    unfold Nt1 F0
    simp [e2]
  obtain ⟨ss, k2, b1, b2, hs, e3⟩ := srcs_ok cs k1 (by omega) (by omega) hb (F0 (.fz (busD nb)) (.fz (.tuple (ls.map Ln.d))) .un .un .un .un .un) rfl rfl (by simp [F0])
  have q2 : Nt2 (F0 (.fz (busD nb)) (.fz (.tuple (ls.map Ln.d))) .un .un .un .un .un) (dst cs k1) = .nx (F0 (.fz (busD nb)) (.fz (.tuple (ls.map Ln.d))) (.fz (.tuple (ss.map Sr.d))) .un .un .un .un) (dst cs k2) := by
    unfold Nt2
    exact set_is e3 (by simp [F0])
  obtain ⟨x, x0, x1, e4⟩ := next_ok cs k2 2 (by omega) (by omega) (by decide)
  obtain ⟨y, y0, y1, e5⟩ := next_ok cs (k2 + 1) 2 (by omega) (by omega) (by decide)
  have q3 : Nt3 (F0 (.fz (busD nb)) (.fz (.tuple (ls.map Ln.d))) (.fz (.tuple (ss.map Sr.d))) .un .un .un .un) (dst cs k2) = .nx (F0 (.fz (busD nb)) (.fz (.tuple (ls.map Ln.d))) (.fz (.tuple (ss.map Sr.d))) (.fz (.int (1 + x))) .un .un .un) (dst cs (k2 + 1)) := by
    unfold Nt3 F0
    simp [e4]
  have q4 : Nt4 (F0 (.fz (busD nb)) (.fz (.tuple (ls.map Ln.d))) (.fz (.tuple (ss.map Sr.d))) (.fz (.int (1 + x))) .un .un .un) (dst cs (k2 + 1)) = .nx (F0 (.fz (busD nb)) (.fz (.tuple (ls.map Ln.d))) (.fz (.tuple (ss.map Sr.d))) (.fz (.int (1 + x))) (.fz (.int (1 + x + y))) .un .un) (dst cs (k2 + 1 + 1)) := by
    unfold Nt4 F0
    simp [e5]
  have q5 : Nt5 (F0 (.fz (busD nb)) (.fz (.tuple (ls.map Ln.d))) (.fz (.tuple (ss.map Sr.d))) (.fz (.int (1 + x))) (.fz (.int (1 + x + y))) .un .un) (dst cs (k2 + 1 + 1)) = .nx (F0 (.fz (busD nb)) (.fz (.tuple (ls.map Ln.d))) (.fz (.tuple (ss.map Sr.d))) (.fz (.int (1 + x))) (.fz (.int (1 + x + y))) (.fz (netD nb ls ss)) .un) (dst cs (k2 + 1 + 1)) := by
    unfold Nt5 F0 netD
    simp
  have q6 : Nt6 (F0 (.fz (busD nb)) (.fz (.tuple (ls.map Ln.d))) (.fz (.tuple (ss.map Sr.d))) (.fz (.int (1 + x))) (.fz (.int (1 + x + y))) (.fz (netD nb ls ss)) .un) (dst cs (k2 + 1 + 1)) = .nx (N7 nb ls ss (1 + x) (1 + x + y) .un .un .un .un .un .un .un .un) (dst cs (k2 + 1 + 1)) := by
    have h := brks_ok hl hs (e := F0 (.fz (busD nb)) (.fz (.tuple (ls.map Ln.d))) (.fz (.tuple (ss.map Sr.d))) (.fz (.int (1 + x))) (.fz (.int (1 + x + y))) (.fz (netD nb ls ss)) .un) (dst cs (k2 + 1 + 1)) rfl rfl (by simp [F0])
    unfold Nt6
    exact set_is h (by simp [F0])
  obtain ⟨gs, k3, ticks, s9, s11, s12, s13, s14, s17, c1, c2, gok, t1, t2, s9k, q7⟩ := nt7_ok cs (k2 + 1 + 1) (by omega) (by omega) hb hl hs (least := 1 + x) (most := 1 + x + y) (by omega) (by omega)
  obtain ⟨er, er1, e6⟩ := pick_m frD cs k3 [(0, 1), (0, 1), (1, 10), (1, 4)] (by omega) (by omega) (by simp) (by simp)
  have er2 : er ∈ ([(0, 1), (1, 10), (1, 4)] : List (Int × Int)) := by
    have : ∀ f ∈ ([(0, 1), (0, 1), (1, 10), (1, 4)] : List (Int × Int)), f ∈ ([(0, 1), (1, 10), (1, 4)] : List (Int × Int)) := by decide
    exact this er er1
  have q8 : Nt8 (N7 nb ls ss (1 + x) (1 + x + y) .un s9 (.fz (.int ticks)) s11 s12 s13 s14 s17) (dst cs k3) = .nx (N7 nb ls ss (1 + x) (1 + x + y) (.fz (frD er)) s9 (.fz (.int ticks)) s11 s12 s13 s14 s17) (dst cs (k3 + 1)) := by
    unfold Nt8 N7
    simp [frD] at e6
    simp [e6, frD]
  have gl := gok.le
  have tk : cutD (gs.map Gd.d) none (some 16) = gs.map Gd.d := by
    have e : ¬ ((16 : Int) < 0) := by omega
    unfold cutD HT.sIx
    simp only [e, if_false, List.length_map]
    have : min (16 : Int).toNat gs.length = gs.length := by
      show min 16 gs.length = _
      omega
    rw [this]
    simp
    exact List.take_of_length_le (by simp)
  have q9 : Nt9 (N7 nb ls ss (1 + x) (1 + x + y) (.fz (frD er)) s9 (.fz (.int ticks)) s11 s12 s13 s14 s17) (dst cs (k3 + 1)) = .rt (Net.d ⟨nb, ls, ss, gs, er, 1 + x, 1 + x + y, ticks⟩) (dst cs (k3 + 1)) := by
    unfold Nt9 N7 Net.d netD
    rcases s9k with rfl | rfl
    · simp [frz, tk]
    · simp [frz, tk]
  have e : F__law_net (F0 .un .un .un .un .un .un .un) (dst cs k) = .rt (Net.d ⟨nb, ls, ss, gs, er, 1 + x, 1 + x + y, ticks⟩) (dst cs (k3 + 1)) := by
    rw [Ntis, sq q0, sq q1, sq q2, sq q3, sq q4, sq q5, sq q6, sq q7, sq q8, q9]
  refine ⟨⟨nb, ls, ss, gs, er, 1 + x, 1 + x + y, ticks⟩, k3 + 1, by omega, by omega, ⟨hb, hl, hs, gok, er2, by show (1 : Int) ≤ 1 + x; omega, by show 1 + x ≤ 1 + x + y; omega, by show 1 + x + y ≤ 3; omega, t1, t2⟩, ?_⟩
  have r : runF 1 18 F__law_net [cel 0] (dst cs k) = .ok (Net.d ⟨nb, ls, ss, gs, er, 1 + x, 1 + x + y, ticks⟩) (dst cs (k3 + 1)) := by
    unfold runF
    rw [if_pos (show [cel 0].length = 1 from rfl)]
    show (match F__law_net (F0 .un .un .un .un .un .un .un) (dst cs k) with
      | .nx _ s' => Res.ok PyData.none s'
      | .rt d s' => .ok d s'
      | .ex x _ s' => .ex x s'
      | _ => .bad) = _
    rw [e]
  show (runF 1 18 F__law_net [cel 0] (dst cs k)).noex = _
  rw [r]
  rfl
end LW
namespace LW
open PySem DL L2
@[simp] theorem check_t (x y : Dat) (s : Sto) : g_check [.bool true, x, y] s = .ok .none s := by kernel_rfl
theorem whole_ok (i a b : Int) (s : Sto) (h : a ≤ i) (h2 : i ≤ b) : g_is_whole [.int i, .int a, .int b] s = .ok (.bool true) s := by
  have t1 : tyName (.int i) = some "int" := rfl
  have t2 : isiTab "int" "int" = true := by decide
  have t3 : isiTab "bool" "int" = false := by decide
  unfold g_is_whole F_is_whole
  simp [t1, t2, t3, h, h2]
theorem in3_list {a : Dat} {ds : List Dat} {b : Bool} (h : isIn a (.list ds) = some b) (s : Sto) : gIn3 a (.list ds) s = .ok (.bool b) s := by
  show gIn a (.list ds) s = _
  simp only [gIn]
  rw [h]
@[simp] theorem check_f (x y : Dat) (s : Sto) : g_check [.bool false, x, y] s = .ex (.tuple [.int 2, x, y]) s := by kernel_rfl
def NM : List Str := (["a", "b", "c", "l0", "l1", "g0", "g1"] : List Str) ++ GN
theorem name_all : ∀ x ∈ NM, ∀ s, g_is_name [.str x] s = .ok (.bool true) s := by
  intro x hx s
  have e : NM = (["a", "b", "c", "l0", "l1", "g0", "g1", "q0", "q1", "q2", "q3", "d0", "d1", "f20", "f21", "e0", "e1", "e2", "e3", "e4", "e5", "e6", "e7"] : List Str) := rfl
  rw [e] at hx
  simp only [List.mem_cons, List.not_mem_nil, or_false] at hx
  rcases hx with rfl | rfl | rfl | rfl | rfl | rfl | rfl | rfl | rfl | rfl | rfl | rfl | rfl | rfl | rfl | rfl | rfl | rfl | rfl | rfl | rfl | rfl | rfl <;> kernel_rfl
theorem in_bus {nb : Nat} (hb : nb = 1 ∨ nb = 2 ∨ nb = 3) {a : Str} (h : a ∈ busL nb) (s : Sto) : gIn3 (.str a) (busD nb) s = .ok (.bool true) s := by
  rcases hb with rfl | rfl | rfl
  · simp [busL] at h
    subst h; kernel_rfl
  · simp [busL] at h
    rcases h with rfl | rfl <;> kernel_rfl
  · simp [busL] at h
    rcases h with rfl | rfl | rfl <;> kernel_rfl
theorem bus_nm {nb : Nat} (hb : nb = 1 ∨ nb = 2 ∨ nb = 3) : ∀ {a : Str}, a ∈ busL nb → a ∈ NM := by
  intro a h
  have q : ∀ a ∈ (["a", "b", "c"] : List Str), a ∈ NM := by decide +kernel
  refine q a ?_
  rcases hb with rfl | rfl | rfl
  · simp [busL] at h; simp [h]
  · simp [busL] at h; rcases h with rfl | rfl <;> simp
  · simp [busL] at h; rcases h with rfl | rfl | rfl <;> simp
theorem nm_ok : ∀ x ∈ NM, PyData.strOk x = true := by
  have : NM.all PyData.strOk = true := by decide +kernel
  exact fun x hx => List.all_eq_true.mp this x hx
theorem above_ok : ∀ f ∈ FR, ∀ s, g_is_above [frD f] s = .ok (.bool true) s := by
  intro f hf s
  unfold FR at hf
  simp only [List.mem_cons, List.not_mem_nil, or_false] at hf
  rcases hf with rfl | rfl | rfl | rfl | rfl | rfl | rfl | rfl | rfl | rfl | rfl | rfl | rfl <;> kernel_rfl
def bsP (nl ns : Nat) : List (Str × Int) := (nmsL nl).flatMap (fun x => [(x, (0 : Int)), (x, (1 : Int))]) ++ (nmsG ns).map fun x => (x, (0 : Int))
def inB (nl ns : Nat) (b : Str × Int) : Bool := match isIn (brD b) (.list ((bsP nl ns).map brD)) with
  | some true => true
  | _ => false
theorem in_brs {nl ns : Nat} (h1 : nl = 0 ∨ nl = 1 ∨ nl = 2) (h2 : ns = 1 ∨ ns = 2) {b : Str × Int} (hb : b ∈ bsC nl ns) (s : Sto) : gIn3 (brD b) (.list ((bsP nl ns).map brD)) s = .ok (.bool true) s := by
  have q : (bsC nl ns).all (inB nl ns) = true := by
    rcases h1 with rfl | rfl | rfl <;> rcases h2 with rfl | rfl <;> decide +kernel
  have r := List.all_eq_true.mp q b hb
  unfold inB at r
  split at r
  · rename_i h; exact in3_list h s
  · cases r
theorem in_parts {nb nl : Nat} (hb : nb = 1 ∨ nb = 2 ∨ nb = 3) (h1 : nl = 0 ∨ nl = 1 ∨ nl = 2) {p : Str} (hp : p ∈ busL nb ++ nmsL nl) (s : Sto) : gIn3 (.str p) (.list ((busL nb ++ nmsL nl).map PyData.str)) s = .ok (.bool true) s := by
  have q : (busL nb ++ nmsL nl).all (fun p => match isIn (.str p) (.list ((busL nb ++ nmsL nl).map PyData.str)) with
    | some true => true
    | _ => false) = true := by
    rcases hb with rfl | rfl | rfl <;> rcases h1 with rfl | rfl | rfl <;> decide +kernel
  have r := List.all_eq_true.mp q p hp
  split at r
  · rename_i h; exact in3_list h s
  · cases r
theorem told_ok {nb nl ns : Nat} (hb : nb = 1 ∨ nb = 2 ∨ nb = 3) (h1 : nl = 0 ∨ nl = 1 ∨ nl = 2) (h2 : ns = 1 ∨ ns = 2) {ls : List Ln} (hl : ls.map Ln.nm = nmsL nl) {td : Td} (h : TdOk nb ls (bsC nl ns) td) (s : Sto) :
    g_is_told [td.d, .list ((bsP nl ns).map brD), .list ((busL nb ++ nmsL nl).map PyData.str)] s = .ok (.bool true) s := by
  have s1 : (("over" : Str) == "over") = true := by decide
  have s2 : (("reach" : Str) == "over") = false := by decide
  have s3 : (("reach" : Str) == "reach") = true := by decide
  have s4 : (("difference" : Str) == "over") = false := by decide
  have s5 : (("difference" : Str) == "reach") = false := by decide
  have s6 : (("difference" : Str) == "difference") = true := by decide
  have s7 : (("behind" : Str) == "over") = false := by decide
  have s8 : (("behind" : Str) == "reach") = false := by decide
  have s9 : (("behind" : Str) == "difference") = false := by decide
  have s0 : (("behind" : Str) == "behind") = true := by decide
  have o1 : PyData.strOk "over" = true := by decide +kernel
  have o2 : PyData.strOk "reach" = true := by decide +kernel
  have o3 : PyData.strOk "difference" = true := by decide +kernel
  have o4 : PyData.strOk "behind" = true := by decide +kernel
  have t1 : ∀ ds, tyName (.tuple ds) = some "tuple" := fun _ => rfl
  have t2 : isiTab "tuple" "tuple" = true := by decide
  have t3 : ∀ z, tyName (.str z) = some "str" := fun _ => rfl
  have t4 : isiTab "str" "str" = true := by decide
  have t5 : ∀ z, tyName (.bool z) = some "bool" := fun _ => rfl
  have t6 : isiTab "bool" "bool" = true := by decide
  cases h with
  | over b f fw h3 h4 =>
    have q1 := in_brs h1 h2 h3 s
    have q2 := above_ok f h4 s
    unfold g_is_told F_is_told Td.d
    simp [-gIn3, q1, q2, s1, o1, t1, t2, t3, t4, t5, t6]
  | reach b f h3 h4 =>
    have q1 := in_brs h1 h2 h3 s
    have q2 := above_ok f h4 s
    unfold g_is_told F_is_told Td.d
    simp [-gIn3, q1, q2, s2, s3, o1, o2, t1, t2, t3, t4]
  | behind b h3 =>
    have q1 := in_brs h1 h2 h3 s
    unfold g_is_told F_is_told Td.d
    simp [-gIn3, q1, s7, s8, s9, s0, o1, o2, o3, o4, t1, t2, t3, t4]
  | diff p f h3 h4 =>
    rw [hl] at h3
    have q1 := in_parts hb h1 h3 s
    have q2 := above_ok f h4 s
    unfold g_is_told F_is_told Td.d
    simp [-gIn3, -List.map_append, q1, q2, s4, s5, s6, o1, o2, o3, t1, t2, t3, t4]
end LW
namespace LW
open PySem DL L2
def Cl0 : FS := (sDrop (fCall g_check (fCons (fAndV (fUn (gIsi "tuple") (fVar 0)) (fBin gEq (fCall gLen2 (fCons (fVar 0) fNil)) (fC (.int 5)))) (fCons (fC .none) (fCons (fC (.str "form")) fNil)))))
def Cl1 : FS := (sDrop (fCall g_check (fCons (fCall gAll (fCons (fLc (fIter (fVar 0)) (gSet 10) cYes E1_check_lists [10]) fNil)) (fCons (fC .none) (fCons (fC (.str "form")) fNil)))))
def Cl2 : FS := (sAsg (fVar 0) (gTupT 5 (gsCons (gSet 1) (gsCons (gSet 2) (gsCons (gSet 3) (gsCons (gSet 4) (gsCons (gSet 5) gsNil)))))))
def Cl3 : FS := (sDrop (fCall g_check (fCons (fAndV (fChain gLe gLe (fC (.int 1)) (fCall gLen2 (fCons (fVar 1) fNil)) c_MOST_BUSES) (fBin gLe2 (fCall gLen2 (fCons (fVar 2) fNil)) c_MOST_LINES)) (fCons (fC .none) (fCons (fC (.str "many")) fNil)))))
def Cl4 : FS := (sDrop (fCall g_check (fCons (fAndV (fChain gLe gLe (fC (.int 1)) (fCall gLen2 (fCons (fVar 3) fNil)) c_MOST_SOURCES) (fBin gLe2 (fCall gLen2 (fCons (fVar 4) fNil)) c_MOST_GUARDS)) (fCons (fC .none) (fCons (fC (.str "many")) fNil)))))
def Cl5 : FS := (sDict 6)
def Cl6 : FS := (sFor (fIter (fLst (fStar (fLc (fIter (fVar 1)) (gSet 11) cYes E2_check_lists [11]) (fStar (fVar 2) (fStar (fVar 3) (fStar (fVar 4) fNil)))))) (gSet 7) B3_check_lists)
def Cl7 : FS := (sFor (fIter (fVar 2)) (gSet 8) B4_check_lists)
def Cl8 : FS := (sFor (fIter (fVar 3)) (gSet 9) B5_check_lists)
theorem Clis : F_check_lists = (sSeq Cl0 (sSeq Cl1 (sSeq Cl2 (sSeq Cl3 (sSeq Cl4 (sSeq Cl5 (sSeq Cl6 (sSeq Cl7 Cl8)))))))) := rfl
def Cr0 : FS := (sDrop (fCall g_check (fCons (fAndV (fUn (gIsi "tuple") (fVar 7)) (fAndV (fBin gGt2 (fCall gLen2 (fCons (fVar 7) fNil)) (fC (.int 0))) (fCallD g_is_name (fCons (fBin gIx3 (fVar 7) (fC (.int 0))) fNil)))) (fCons (fC .none) (fCons (fC (.str "name")) fNil)))))
def Cr1 : FS := (sDrop (fCall g_check (fCons (fHas 6 true (fBin gIx3 (fVar 7) (fC (.int 0)))) (fCons (fBin gIx3 (fVar 7) (fC (.int 0))) (fCons (fC (.str "told twice")) fNil)))))
def Cr2 : FS := (sPutOwn 6 (fBin gIx3 (fVar 7) (fC (.int 0))) (fC (.bool true)))
theorem Cris : B3_check_lists = fun e s => (sSeq Cr0 (sSeq Cr1 Cr2)) e s := rfl
def row (p : Str × List Dat) : Dat := .tuple (.str p.1 :: p.2)
def kvs (ks : List Str) : List (Key × Dat) := ks.map fun x => ((.inr x : Key), PyData.bool true)
theorem get_no {ks : List Str} {x : Str} (h : x ∉ ks) : getK (kvs ks) (.inr x) = none := by
  unfold getK kvs
  rw [Option.map_eq_none_iff, List.find?_eq_none]
  intro p hp
  obtain ⟨y, hy, rfl⟩ := List.mem_map.mp hp
  simp only [decide_eq_true_eq]
  intro z
  cases z
  exact h hy
theorem put_no {ks : List Str} {x : Str} (h : x ∉ ks) : putD (kvs ks) (.inr x) (.bool true) = kvs (ks ++ [x]) := by
  unfold putD
  rw [if_neg ?_]
  · unfold kvs
    rw [List.map_append]
    rfl
  · intro z
    rw [List.any_eq_true] at z
    obtain ⟨p, hp, e⟩ := z
    unfold kvs at hp
    obtain ⟨y, hy, rfl⟩ := List.mem_map.mp hp
    simp only [decide_eq_true_eq] at e
    cases e
    exact h hy
def Fc (d a1 a2 a3 a4 a5 : Slt) (ks : List Str) (a7 a8 a9 : Slt) : Lcs := [d, a1, a2, a3, a4, a5, .ow (.dk (kvs ks)), a7, a8, a9, .un, .un]
theorem row_step (d a1 a2 a3 a4 a5 a7 a8 a9 : Slt) (ks : List Str) (p : Str × List Dat) (hn : p.1 ∈ NM) (hk : p.1 ∉ ks) (hl : ks.length ≤ 100) (hl2 : p.2.length ≤ 100) (s : Sto) (h7 : a7 = .fz (row p)) :
    B3_check_lists (Fc d a1 a2 a3 a4 a5 ks a7 a8 a9) s = .nx (Fc d a1 a2 a3 a4 a5 (ks ++ [p.1]) a7 a8 a9) s := by
  subst h7
  have t1 : ∀ ds, tyName (.tuple ds) = some "tuple" := fun _ => rfl
  have t2 : isiTab "tuple" "tuple" = true := by decide
  have nm := name_all p.1 hn s
  have g := get_no hk
  have z : (0 : Int) < p.2.length + 1 := by omega
  have kl : (kvs ks).length < 16777216 := by unfold kvs; rw [List.length_map]; omega
  have c0 : Cr0 (Fc d a1 a2 a3 a4 a5 ks (.fz (row p)) a8 a9) s = .nx (Fc d a1 a2 a3 a4 a5 ks (.fz (row p)) a8 a9) s := by
    unfold Cr0 Fc row
    simp [t1, t2, nm, z]
  have c1 : Cr1 (Fc d a1 a2 a3 a4 a5 ks (.fz (row p)) a8 a9) s = .nx (Fc d a1 a2 a3 a4 a5 ks (.fz (row p)) a8 a9) s := by
    unfold Cr1 Fc row
    simp [DL.keyOf, g]
  have c2 : Cr2 (Fc d a1 a2 a3 a4 a5 ks (.fz (row p)) a8 a9) s = .nx (Fc d a1 a2 a3 a4 a5 (ks ++ [p.1]) (.fz (row p)) a8 a9) s := by
    unfold Cr2 Fc row
    simp [DL.keyOf, kl, put_no hk]
  rw [Cris]
  show sSeq Cr0 (sSeq Cr1 Cr2) _ s = _
  rw [sq c0, sq c1, c2]
theorem rows_ok (d a1 a2 a3 a4 a5 a8 a9 : Slt) (s : Sto) : ∀ (ps : List (Str × List Dat)) (ks : List Str) (a7 : Slt), (∀ p ∈ ps, p.1 ∈ NM ∧ p.2.length ≤ 100) → (ks ++ ps.map Prod.fst).Nodup → ks.length + ps.length ≤ 100 →
    ∃ b7, forL (gSet 7) B3_check_lists (ps.map row) (Fc d a1 a2 a3 a4 a5 ks a7 a8 a9) s = .nx (Fc d a1 a2 a3 a4 a5 (ks ++ ps.map Prod.fst) b7 a8 a9) s
  | [], ks, a7, _, _, _ => ⟨a7, by simp⟩
  | p :: ps, ks, a7, hp, hd, hl => by
    simp only [List.map_cons, List.length_cons] at hd hl ⊢
    have hk : p.1 ∉ ks := fun h => by
      have := (List.nodup_append.mp hd).2.2 p.1 h p.1 (by simp)
      exact this rfl
    have e : ks ++ p.1 :: ps.map Prod.fst = (ks ++ [p.1]) ++ ps.map Prod.fst := by simp
    rw [e] at hd ⊢
    obtain ⟨b7, q⟩ := rows_ok d a1 a2 a3 a4 a5 a8 a9 s ps (ks ++ [p.1]) (.fz (row p)) (fun q hq => hp q (List.mem_cons_of_mem _ hq)) hd (by simp; omega)
    have st := row_step d a1 a2 a3 a4 a5 (.fz (row p)) a8 a9 ks p (hp p (by simp)).1 hk (by omega) (hp p (by simp)).2 s rfl
    have g : gSet 7 (row p) (Fc d a1 a2 a3 a4 a5 ks a7 a8 a9) s = .ok (Fc d a1 a2 a3 a4 a5 ks (.fz (row p)) a8 a9) s := rfl
    refine ⟨b7, ?_⟩
    simp only [forL]
    rw [g]
    simp only [Res.noex, Res.flo]
    rw [st]
    exact q
theorem loop_keep {α : Type} (f : α → Dat) (G : FG) (B : FS) (E : Slt → Lcs) (s : Sto) (hg : ∀ a b, G (f a) (E b) s = .ok (E (.fz (f a))) s) : ∀ (xs : List α) (b : Slt), (∀ a ∈ xs, B (E (.fz (f a))) s = .nx (E (.fz (f a))) s) →
    ∃ b', forL G B (xs.map f) (E b) s = .nx (E b') s
  | [], b, _ => ⟨b, by simp⟩
  | a :: xs, b, h => by
    obtain ⟨b', q⟩ := loop_keep f G B E s hg xs (.fz (f a)) (fun x hx => h x (List.mem_cons_of_mem _ hx))
    refine ⟨b', ?_⟩
    simp only [List.map_cons, forL]
    rw [hg]
    simp only [Res.noex, Res.flo]
    rw [h a (by simp)]
    exact q
theorem ln_step {nb : Nat} (hb : nb = 1 ∨ nb = 2 ∨ nb = 3) (d a2 a3 a4 a5 a7 a9 : Slt) (ks : List Str) (l : Ln) (h : LnOk nb l) (s : Sto) :
    B4_check_lists (Fc d (.fz (busD nb)) a2 a3 a4 a5 ks a7 (.fz l.d) a9) s = .nx (Fc d (.fz (busD nb)) a2 a3 a4 a5 ks a7 (.fz l.d) a9) s := by
  obtain ⟨h1, h2, h3, h4⟩ := h
  have q1 := in_bus hb h1 s
  have q2 := in_bus hb h2 s
  have q3 := ne_str l.a l.b s (nm_ok _ (bus_nm hb h1)) (nm_ok _ (bus_nm hb h2))
  have q4 : (l.a == l.b) = false := by simpa using h3
  have q5 : ∀ x ∈ ([1, 2, 5, 10, 30] : List Int), 1 ≤ x ∧ x ≤ 1000 := by decide
  have q6 := whole_ok l.x 1 1000 s (q5 _ h4).1 (q5 _ h4).2
  unfold B4_check_lists Fc Ln.d
  simp [-gIn3, q1, q2, q3, q4, q6]
theorem sr_step {nb : Nat} (hb : nb = 1 ∨ nb = 2 ∨ nb = 3) (d a2 a3 a4 a5 a7 a8 : Slt) (ks : List Str) (l : Sr) (h : SrOk nb l) (s : Sto) :
    B5_check_lists (Fc d (.fz (busD nb)) a2 a3 a4 a5 ks a7 a8 (.fz l.d)) s = .nx (Fc d (.fz (busD nb)) a2 a3 a4 a5 ks a7 a8 (.fz l.d)) s := by
  obtain ⟨h1, h4⟩ := h
  have q1 := in_bus hb h1 s
  have q5 : ∀ x ∈ ([1, 3, 10] : List Int), 1 ≤ x ∧ x ≤ 1000 := by decide
  have q6 := whole_ok l.x 1 1000 s (q5 _ h4).1 (q5 _ h4).2
  unfold B5_check_lists Fc Sr.d
  simp [-gIn3, q1, q6]
end LW
namespace LW
open PySem DL L2
def rowsOf (n : Net) : List (Str × List Dat) := (busL n.nb).map (fun b => (b, [])) ++ (n.ls.map (fun l => (l.nm, [.str l.a, .str l.b, .int l.x])) ++ (n.ss.map (fun l => (l.nm, [.str l.b, .int l.x])) ++ n.gs.map fun g => (g.nm, [g.td.d, .int g.dl, .tuple (g.op.map brD)])))
theorem rows_map (n : Net) : (rowsOf n).map row = (busL n.nb).map (fun b => .tuple [.str b]) ++ (n.ls.map Ln.d ++ (n.ss.map Sr.d ++ n.gs.map Gd.d)) := by
  unfold rowsOf
  simp only [List.map_append, List.map_map]
  rfl
theorem names_of (n : Net) (h : NetOk n) : (rowsOf n).map Prod.fst = (busL n.nb ++ nmsL n.ls.length ++ nmsG n.ss.length) ++ n.gs.map Gd.nm := by
  unfold rowsOf
  simp only [List.map_append, List.map_map]
  have a : n.ls.map (Prod.fst ∘ fun l => (l.nm, ([.str l.a, .str l.b, .int l.x] : List Dat))) = n.ls.map Ln.nm := rfl
  have b : n.ss.map (Prod.fst ∘ fun l => (l.nm, ([.str l.b, .int l.x] : List Dat))) = n.ss.map Sr.nm := rfl
  have c : n.gs.map (Prod.fst ∘ fun g => (g.nm, ([g.td.d, .int g.dl, .tuple (g.op.map brD)] : List Dat))) = n.gs.map Gd.nm := rfl
  have d : (busL n.nb).map (Prod.fst ∘ fun b => (b, ([] : List Dat))) = busL n.nb := by
    have : (Prod.fst ∘ fun b => (b, ([] : List Dat))) = (id : Str → Str) := rfl
    rw [this, List.map_id]
  rw [a, b, c, d, (lns_names h.ls).1, (srs_names h.ss).1]
  simp
theorem names_nd (n : Net) (h : NetOk n) : ((rowsOf n).map Prod.fst).Nodup ∧ ∀ x ∈ (rowsOf n).map Prod.fst, x ∈ NM := by
  rw [names_of n h]
  have q : ∀ nb nl ns, (nb = 1 ∨ nb = 2 ∨ nb = 3) → (nl = 0 ∨ nl = 1 ∨ nl = 2) → (ns = 1 ∨ ns = 2) → (busL nb ++ nmsL nl ++ nmsG ns).Nodup ∧ ∀ x ∈ busL nb ++ nmsL nl ++ nmsG ns, x ∈ NM ∧ x ∉ GN := by
    intro nb nl ns h1 h2 h3
    rcases h1 with rfl | rfl | rfl <;> rcases h2 with rfl | rfl | rfl <;> rcases h3 with rfl | rfl <;> decide +kernel
  obtain ⟨q1, q2⟩ := q n.nb n.ls.length n.ss.length h.nb (lns_names h.ls).2 (srs_names h.ss).2
  have gn : ∀ x ∈ n.gs.map Gd.nm, x ∈ GN := fun x hx => by
    obtain ⟨g, hg, rfl⟩ := List.mem_map.mp hx
    exact (h.gs.each g hg).2
  refine ⟨List.nodup_append.mpr ⟨q1, h.gs.nd, fun a ha b hb e => ?_⟩, fun x hx => ?_⟩
  · subst e
    exact (q2 a ha).2 (gn a hb)
  · rcases List.mem_append.mp hx with h1 | h1
    · exact (q2 x h1).1
    · exact List.mem_append_right _ (gn x h1)
def G0 (s0 s1 s2 s3 s4 s5 s6 : Slt) : Lcs := [s0, s1, s2, s3, s4, s5, s6, .un, .un, .un, .un, .un]
theorem bus_len {nb : Nat} (h : nb = 1 ∨ nb = 2 ∨ nb = 3) : (busL nb).length = nb := by rcases h with rfl | rfl | rfl <;> rfl
theorem lns_each {nb : Nat} {ls : List Ln} (h : Lns nb ls) : ∀ l ∈ ls, LnOk nb l := by
  cases h with
  | none => simp
  | one l _ o _ => intro x hx; rw [List.mem_singleton.mp hx]; exact o
  | two l m _ o _ p _ =>
    intro x hx
    simp at hx
    rcases hx with rfl | rfl
    · exact o
    · exact p
theorem srs_each {nb : Nat} {ls : List Sr} (h : Srs nb ls) : ∀ l ∈ ls, SrOk nb l := by
  cases h with
  | one l o _ => intro x hx; rw [List.mem_singleton.mp hx]; exact o
  | two l m o _ p _ =>
    intro x hx
    simp at hx
    rcases hx with rfl | rfl
    · exact o
    · exact p
theorem lists_ok (n : Net) (h : NetOk n) (s : Sto) : g_check_lists [n.d] s = .ok .none s := by
  have t1 : ∀ ds, tyName (.tuple ds) = some "tuple" := fun _ => rfl
  have t2 : isiTab "tuple" "tuple" = true := by decide
  have bl := bus_len h.nb
  have l1 := (lns_names h.ls).2
  have l2 := (srs_names h.ss).2
  have l3 := h.gs.ge
  have l4 := h.gs.le
  have hnb := h.nb
  obtain ⟨q1, q2⟩ := names_nd n h
  have A : Slt := .fz (busD n.nb)
  have c0 : Cl0 (G0 (.fz n.d) .un .un .un .un .un .un) s = .nx (G0 (.fz n.d) .un .un .un .un .un .un) s := by
    unfold Cl0 G0 Net.d
    simp [t1, t2]
  have c1 : Cl1 (G0 (.fz n.d) .un .un .un .un .un .un) s = .nx (G0 (.fz n.d) .un .un .un .un .un .un) s := by
    unfold Cl1 G0 Net.d E1_check_lists busD
    simp [t1, t2, Res.noex]
  have c2 : Cl2 (G0 (.fz n.d) .un .un .un .un .un .un) s = .nx (G0 (.fz n.d) (.fz (busD n.nb)) (.fz (.tuple (n.ls.map Ln.d))) (.fz (.tuple (n.ss.map Sr.d))) (.fz (.tuple (n.gs.map Gd.d))) (.fz (.tuple [frD n.er, .int n.least, .int n.most, .int n.ticks])) .un) s := by
    unfold Cl2 G0 Net.d
    simp
  have z1 : (1 : Int) ≤ (busL n.nb).length := by omega
  have z2 : ((busL n.nb).length : Int) ≤ 6 := by omega
  have z3 : (n.ls.length : Int) ≤ 8 := by omega
  have z4 : (1 : Int) ≤ n.ss.length := by omega
  have z5 : (n.ss.length : Int) ≤ 3 := by omega
  have z6 : (n.gs.length : Int) ≤ 16 := by omega
  have c3 : Cl3 (G0 (.fz n.d) (.fz (busD n.nb)) (.fz (.tuple (n.ls.map Ln.d))) (.fz (.tuple (n.ss.map Sr.d))) (.fz (.tuple (n.gs.map Gd.d))) (.fz (.tuple [frD n.er, .int n.least, .int n.most, .int n.ticks])) .un) s = .nx (G0 (.fz n.d) (.fz (busD n.nb)) (.fz (.tuple (n.ls.map Ln.d))) (.fz (.tuple (n.ss.map Sr.d))) (.fz (.tuple (n.gs.map Gd.d))) (.fz (.tuple [frD n.er, .int n.least, .int n.most, .int n.ticks])) .un) s := by
    unfold Cl3 G0 busD
    simp [z1, z2, z3]
  have c4 : Cl4 (G0 (.fz n.d) (.fz (busD n.nb)) (.fz (.tuple (n.ls.map Ln.d))) (.fz (.tuple (n.ss.map Sr.d))) (.fz (.tuple (n.gs.map Gd.d))) (.fz (.tuple [frD n.er, .int n.least, .int n.most, .int n.ticks])) .un) s = .nx (G0 (.fz n.d) (.fz (busD n.nb)) (.fz (.tuple (n.ls.map Ln.d))) (.fz (.tuple (n.ss.map Sr.d))) (.fz (.tuple (n.gs.map Gd.d))) (.fz (.tuple [frD n.er, .int n.least, .int n.most, .int n.ticks])) .un) s := by
    unfold Cl4 G0 busD
    simp [z4, z5, z6]
  have c5 : Cl5 (G0 (.fz n.d) (.fz (busD n.nb)) (.fz (.tuple (n.ls.map Ln.d))) (.fz (.tuple (n.ss.map Sr.d))) (.fz (.tuple (n.gs.map Gd.d))) (.fz (.tuple [frD n.er, .int n.least, .int n.most, .int n.ticks])) .un) s = .nx (Fc (.fz n.d) (.fz (busD n.nb)) (.fz (.tuple (n.ls.map Ln.d))) (.fz (.tuple (n.ss.map Sr.d))) (.fz (.tuple (n.gs.map Gd.d))) (.fz (.tuple [frD n.er, .int n.least, .int n.most, .int n.ticks])) [] .un .un .un) s := by
    unfold Cl5 G0 Fc kvs
    simp
  obtain ⟨b7, r1⟩ := rows_ok (.fz n.d) (.fz (busD n.nb)) (.fz (.tuple (n.ls.map Ln.d))) (.fz (.tuple (n.ss.map Sr.d))) (.fz (.tuple (n.gs.map Gd.d))) (.fz (.tuple [frD n.er, .int n.least, .int n.most, .int n.ticks])) .un .un s (rowsOf n) [] .un
    (fun p hp => ⟨q2 _ (List.mem_map_of_mem hp), by
      unfold rowsOf at hp
      simp only [List.mem_append, List.mem_map] at hp
      rcases hp with ⟨_, _, rfl⟩ | ⟨_, _, rfl⟩ | ⟨_, _, rfl⟩ | ⟨_, _, rfl⟩ <;> simp⟩) (by simpa using q1) (by unfold rowsOf; simp; omega)
  simp only [List.nil_append] at r1
  generalize hk : (rowsOf n).map Prod.fst = ks at r1
  have c6 : Cl6 (Fc (.fz n.d) (.fz (busD n.nb)) (.fz (.tuple (n.ls.map Ln.d))) (.fz (.tuple (n.ss.map Sr.d))) (.fz (.tuple (n.gs.map Gd.d))) (.fz (.tuple [frD n.er, .int n.least, .int n.most, .int n.ticks])) [] .un .un .un) s = .nx (Fc (.fz n.d) (.fz (busD n.nb)) (.fz (.tuple (n.ls.map Ln.d))) (.fz (.tuple (n.ss.map Sr.d))) (.fz (.tuple (n.gs.map Gd.d))) (.fz (.tuple [frD n.er, .int n.least, .int n.most, .int n.ticks])) ks b7 .un .un) s := by
    have lc := fun (e : Lcs) (hn : 11 < e.length) => lc_map PyData.str (fun b => .tuple [.str b]) 11 E2_check_lists s (e := e) hn (fun b e h => by unfold E2_check_lists; simp [h]) (busL n.nb)
    have it : (fIter (fLst (fStar (fLc (fIter (fVar 1)) (gSet 11) cYes E2_check_lists [11]) (fStar (fVar 2) (fStar (fVar 3) (fStar (fVar 4) fNil)))))) (Fc (.fz n.d) (.fz (busD n.nb)) (.fz (.tuple (n.ls.map Ln.d))) (.fz (.tuple (n.ss.map Sr.d))) (.fz (.tuple (n.gs.map Gd.d))) (.fz (.tuple [frD n.er, .int n.least, .int n.most, .int n.ticks])) [] .un .un .un) s = .ok ((rowsOf n).map row) s := by
      rw [rows_map]
      have y1 : (busL n.nb).length < 16777216 := by omega
      have y2 : (busL n.nb).length + (n.ls.length + (n.ss.length + n.gs.length)) ≤ 16777216 := by omega
      unfold Fc busD
      simp [lc, y1, y2]
    unfold Cl6
    rw [sFor, it]
    exact r1
  obtain ⟨b8, r2⟩ := loop_keep Ln.d (gSet 8) B4_check_lists (fun b => Fc (.fz n.d) (.fz (busD n.nb)) (.fz (.tuple (n.ls.map Ln.d))) (.fz (.tuple (n.ss.map Sr.d))) (.fz (.tuple (n.gs.map Gd.d))) (.fz (.tuple [frD n.er, .int n.least, .int n.most, .int n.ticks])) ks b7 b .un) s (fun a b => rfl) n.ls .un
    (fun l hl => ln_step h.nb _ _ _ _ _ _ _ ks l (lns_each h.ls l hl) s)
  obtain ⟨b9, r3⟩ := loop_keep Sr.d (gSet 9) B5_check_lists (fun b => Fc (.fz n.d) (.fz (busD n.nb)) (.fz (.tuple (n.ls.map Ln.d))) (.fz (.tuple (n.ss.map Sr.d))) (.fz (.tuple (n.gs.map Gd.d))) (.fz (.tuple [frD n.er, .int n.least, .int n.most, .int n.ticks])) ks b7 b8 b) s (fun a b => rfl) n.ss .un
    (fun l hl => sr_step h.nb _ _ _ _ _ _ _ ks l (srs_each h.ss l hl) s)
  have c7 : Cl7 (Fc (.fz n.d) (.fz (busD n.nb)) (.fz (.tuple (n.ls.map Ln.d))) (.fz (.tuple (n.ss.map Sr.d))) (.fz (.tuple (n.gs.map Gd.d))) (.fz (.tuple [frD n.er, .int n.least, .int n.most, .int n.ticks])) ks b7 .un .un) s = .nx (Fc (.fz n.d) (.fz (busD n.nb)) (.fz (.tuple (n.ls.map Ln.d))) (.fz (.tuple (n.ss.map Sr.d))) (.fz (.tuple (n.gs.map Gd.d))) (.fz (.tuple [frD n.er, .int n.least, .int n.most, .int n.ticks])) ks b7 b8 .un) s := r2
  have c8 : Cl8 (Fc (.fz n.d) (.fz (busD n.nb)) (.fz (.tuple (n.ls.map Ln.d))) (.fz (.tuple (n.ss.map Sr.d))) (.fz (.tuple (n.gs.map Gd.d))) (.fz (.tuple [frD n.er, .int n.least, .int n.most, .int n.ticks])) ks b7 b8 .un) s = .nx (Fc (.fz n.d) (.fz (busD n.nb)) (.fz (.tuple (n.ls.map Ln.d))) (.fz (.tuple (n.ss.map Sr.d))) (.fz (.tuple (n.gs.map Gd.d))) (.fz (.tuple [frD n.er, .int n.least, .int n.most, .int n.ticks])) ks b7 b8 b9) s := r3
  have e : F_check_lists (G0 (.fz n.d) .un .un .un .un .un .un) s = .nx (Fc (.fz n.d) (.fz (busD n.nb)) (.fz (.tuple (n.ls.map Ln.d))) (.fz (.tuple (n.ss.map Sr.d))) (.fz (.tuple (n.gs.map Gd.d))) (.fz (.tuple [frD n.er, .int n.least, .int n.most, .int n.ticks])) ks b7 b8 b9) s := by
    rw [Clis, sq c0, sq c1, sq c2, sq c3, sq c4, sq c5, sq c6, sq c7, c8]
  have r : runF 1 12 F_check_lists [n.d] s = .ok .none s := by
    unfold runF
    rw [if_pos (show [n.d].length = 1 from rfl)]
    show (match F_check_lists (G0 (.fz n.d) .un .un .un .un .un .un) s with
      | .nx _ s' => Res.ok PyData.none s'
      | .rt d s' => .ok d s'
      | .ex x _ s' => .ex x s'
      | _ => .bad) = _
    rw [e]
  exact r
end LW
namespace LW
open PySem DL L2
def Cn0 : FS := (sDrop (fCall g_check_lists (fCons (fVar 0) fNil)))
def Cn1 : FS := (sAsg (fVar 0) (gTupT 5 (gsCons (gSet 1) (gsCons (gSet 2) (gsCons (gSet 3) (gsCons (gSet 4) (gsCons (gSet 5) gsNil)))))))
def Cn2 : FS := (sAsg (fTup (fCons (fCallD g_breakers_of (fCons (fVar 0) fNil)) (fCons (fLst (fStar (fVar 1) (fStar (fLc (fIter (fVar 2)) (gSet 10) cYes E1_check_net [10]) fNil))) fNil))) (gTupT 2 (gsCons (gSet 6) (gsCons (gSet 7) gsNil))))
def Cn3 : FS := (sFor (fIter (fVar 4)) (gSet 8) B4_check_net)
def Cn4 : FS := (sDrop (fCall g_check (fCons (fCallD g_is_rules (fCons (fVar 5) fNil)) (fCons (fC .none) (fCons (fC (.str "rules")) fNil)))))
theorem Cnis : F_check_net = (sSeq Cn0 (sSeq Cn1 (sSeq Cn2 (sSeq Cn3 Cn4)))) := rfl
def Cg0 : FS := (sDrop (fCall g_check (fCons (fAndV (fBin gEq (fCall gLen2 (fCons (fVar 8) fNil)) (fC (.int 4))) (fCallD g_is_told (fCons (fBin gIx3 (fVar 8) (fC (.int 1))) (fCons (fVar 6) (fCons (fVar 7) fNil))))) (fCons (fBin gIx3 (fVar 8) (fC (.int 0))) (fCons (fC (.str "told")) fNil)))))
def Cg1 : FS := (sDrop (fCall g_check (fCons (fCallD g_is_whole (fCons (fBin gIx3 (fVar 8) (fC (.int 2))) (fCons (fC (.int 0)) (fCons c_MOST_DELAY fNil)))) (fCons (fBin gIx3 (fVar 8) (fC (.int 0))) (fCons (fC (.str "delay")) fNil)))))
def Cg2 : FS := (sSet 9 (fBin gIx3 (fVar 8) (fC (.int 3))))
def Cg3 : FS := (sDrop (fCall g_check (fCons (fAndV (fUn (gIsi "tuple") (fVar 9)) (fBin gGt2 (fCall gLen2 (fCons (fVar 9) fNil)) (fC (.int 0)))) (fCons (fBin gIx3 (fVar 8) (fC (.int 0))) (fCons (fC (.str "opens")) fNil)))))
def Cg4 : FS := (sDrop (fCall g_check (fCons (fCall gAll (fCons (fLc (fIter (fVar 9)) (gSet 11) cYes E2_check_net [11]) fNil)) (fCons (fBin gIx3 (fVar 8) (fC (.int 0))) (fCons (fC (.str "opens")) fNil)))))
def Cg5 : FS := (sDrop (fCall g_check (fCons (fCall gAll (fCons (fLc (fItA gZip (fCons (fVar 9) (fCons (fSl (fVar 9) (fSome (fC (.int 1))) fNo) fNil))) (gTupT 2 (gsCons (gSet 11) (gsCons (gSet 12) gsNil))) cYes E3_check_net [11, 12]) fNil)) (fCons (fBin gIx3 (fVar 8) (fC (.int 0))) (fCons (fC (.str "opens")) fNil)))))
theorem Cgis : B4_check_net = fun e s => (sSeq Cg0 (sSeq Cg1 (sSeq Cg2 (sSeq Cg3 (sSeq Cg4 Cg5))))) e s := rfl
theorem brks_of (n : Net) (h : NetOk n) (s : Sto) : g_breakers_of [n.d] s = .ok (.list ((bsP n.ls.length n.ss.length).map brD)) s := by
  obtain ⟨nb, ls, ss, gs, er, least, most, ticks⟩ := n
  have hl := h.ls
  have hs := h.ss
  simp only [] at hl hs ⊢
  unfold g_breakers_of F_breakers_of Net.d
  cases hl with
  | none =>
    cases hs with
    | one l o e => simp [fLc2, lc2L, Ln.d, Sr.d, E1_breakers_of, E2_breakers_of, Res.noex, bsP, nmsL, nmsG, brD, e, g0_is]
    | two l m o e o2 e2 => simp [fLc2, lc2L, Ln.d, Sr.d, E1_breakers_of, E2_breakers_of, Res.noex, bsP, nmsL, nmsG, brD, e, e2, g0_is, g1_is]
  | one a _ _ q =>
    cases hs with
    | one l o e => simp [fLc2, lc2L, Ln.d, Sr.d, E1_breakers_of, E2_breakers_of, Res.noex, bsP, nmsL, nmsG, brD, e, g0_is, q, l0_is]
    | two l m o e o2 e2 => simp [fLc2, lc2L, Ln.d, Sr.d, E1_breakers_of, E2_breakers_of, Res.noex, bsP, nmsL, nmsG, brD, e, e2, g0_is, g1_is, q, l0_is]
  | two a b _ _ q _ q2 =>
    cases hs with
    | one l o e => simp [fLc2, lc2L, Ln.d, Sr.d, E1_breakers_of, E2_breakers_of, Res.noex, bsP, nmsL, nmsG, brD, e, g0_is, q, q2, l0_is, l1_is]
    | two l m o e o2 e2 => simp [fLc2, lc2L, Ln.d, Sr.d, E1_breakers_of, E2_breakers_of, Res.noex, bsP, nmsL, nmsG, brD, e, e2, g0_is, g1_is, q, q2, l0_is, l1_is]
def opB (nl ns : Nat) (op : List (Str × Int)) : Bool := op.all (fun b => decide (b ∈ bsC nl ns)) && (op.zip (op.drop 1)).all (fun p => cmpOk (brD p.1) (brD p.2) && PySem.W.dataLt (brD p.1) (brD p.2)) && decide (1 ≤ op.length) && decide (op.length ≤ 6)
theorem op_all {nl ns : Nat} (h1 : nl = 0 ∨ nl = 1 ∨ nl = 2) (h2 : ns = 1 ∨ ns = 2) : ∀ ys ∈ subs (bsC nl ns), ys ≠ [] → opB nl ns (sortB ys) = true := by
  have q : (subs (bsC nl ns)).all (fun ys => ys.isEmpty || opB nl ns (sortB ys)) = true := by
    rcases h1 with rfl | rfl | rfl <;> rcases h2 with rfl | rfl <;> decide +kernel
  intro ys hy hn
  have := List.all_eq_true.mp q ys hy
  rw [Bool.or_eq_true] at this
  rcases this with h | h
  · simp at h; exact absurd h hn
  · exact h
theorem lc_all {α : Type} (f : α → Dat) (G : FG) (Fe : FE) (e : Lcs) (s : Sto) (hE : ∀ a e1, G (f a) e s = .ok e1 s → True) : ∀ xs : List α, (∀ a ∈ xs, ∃ e1, G (f a) e s = .ok e1 s ∧ Fe e1 s = .ok (.bool true) s) → ∃ ys, lcL G cYes Fe e (xs.map f) s = .ok ys s ∧ bools? ys = some (xs.map fun _ => true)
  | [], _ => ⟨[], rfl, rfl⟩
  | a :: xs, h => by
    obtain ⟨e1, h1, h2⟩ := h a (by simp)
    obtain ⟨ys, h3, h4⟩ := lc_all f G Fe e s hE xs fun b hb => h b (List.mem_cons_of_mem _ hb)
    refine ⟨.bool true :: ys, ?_, ?_⟩
    · simp [h1, h2, Res.noex, h3]
    · simp [h4]
def Fn (a0 a1 a2 a3 a4 a5 a6 a7 a8 a9 : Slt) : Lcs := [a0, a1, a2, a3, a4, a5, a6, a7, a8, a9, .un, .un, .un]
theorem gd_step {nb nl ns : Nat} (hb : nb = 1 ∨ nb = 2 ∨ nb = 3) (h1 : nl = 0 ∨ nl = 1 ∨ nl = 2) (h2 : ns = 1 ∨ ns = 2) {ls : List Ln} (hl : ls.map Ln.nm = nmsL nl) {g : Gd} (h : GdOk nb nl ns ls g) (a0 a1 a2 a3 a4 a5 a9 : Slt) (s : Sto) :
    B4_check_net (Fn a0 a1 a2 a3 a4 a5 (.fz (.list ((bsP nl ns).map brD))) (.fz (.list ((busL nb ++ nmsL nl).map PyData.str))) (.fz g.d) a9) s =
    .nx (Fn a0 a1 a2 a3 a4 a5 (.fz (.list ((bsP nl ns).map brD))) (.fz (.list ((busL nb ++ nmsL nl).map PyData.str))) (.fz g.d) (.fz (.tuple (g.op.map brD)))) s := by
  obtain ⟨td, d0, d1, ys, hy, hn, ho⟩ := h
  have q1 := told_ok hb h1 h2 hl td s
  have q2 := whole_ok g.dl 0 20 s d0 (by omega)
  have ob := op_all h1 h2 ys hy hn
  rw [← ho] at ob
  simp only [opB, Bool.and_eq_true, decide_eq_true_eq, List.all_eq_true] at ob
  obtain ⟨⟨⟨o1, o2⟩, o3⟩, o4⟩ := ob
  have t1 : ∀ ds, tyName (.tuple ds) = some "tuple" := fun _ => rfl
  have t2 : isiTab "tuple" "tuple" = true := by decide
  generalize hB : (.list ((bsP nl ns).map brD) : Dat) = Bk at *
  generalize hP : (.list ((busL nb ++ nmsL nl).map PyData.str) : Dat) = Pt at *
  have c0 : Cg0 (Fn a0 a1 a2 a3 a4 a5 (.fz Bk) (.fz Pt) (.fz g.d) a9) s = .nx (Fn a0 a1 a2 a3 a4 a5 (.fz Bk) (.fz Pt) (.fz g.d) a9) s := by
    unfold Cg0 Fn Gd.d
    simp [q1]
  have c1 : Cg1 (Fn a0 a1 a2 a3 a4 a5 (.fz Bk) (.fz Pt) (.fz g.d) a9) s = .nx (Fn a0 a1 a2 a3 a4 a5 (.fz Bk) (.fz Pt) (.fz g.d) a9) s := by
    unfold Cg1 Fn Gd.d
    simp [q2]
  have c2 : Cg2 (Fn a0 a1 a2 a3 a4 a5 (.fz Bk) (.fz Pt) (.fz g.d) a9) s = .nx (Fn a0 a1 a2 a3 a4 a5 (.fz Bk) (.fz Pt) (.fz g.d) (.fz (.tuple (g.op.map brD)))) s := by
    unfold Cg2 Fn Gd.d
    simp
  have z0 : 0 < g.op.length := by omega
  have c3 : Cg3 (Fn a0 a1 a2 a3 a4 a5 (.fz Bk) (.fz Pt) (.fz g.d) (.fz (.tuple (g.op.map brD)))) s = .nx (Fn a0 a1 a2 a3 a4 a5 (.fz Bk) (.fz Pt) (.fz g.d) (.fz (.tuple (g.op.map brD)))) s := by
    unfold Cg3 Fn Gd.d
    simp [t1, t2, z0]
  have z1 : g.op.length < 16777216 := by omega
  have c4 : Cg4 (Fn a0 a1 a2 a3 a4 a5 (.fz Bk) (.fz Pt) (.fz g.d) (.fz (.tuple (g.op.map brD)))) s = .nx (Fn a0 a1 a2 a3 a4 a5 (.fz Bk) (.fz Pt) (.fz g.d) (.fz (.tuple (g.op.map brD)))) s := by
    obtain ⟨zs, w1, w2⟩ := lc_all brD (gSet 11) E2_check_net (Fn a0 a1 a2 a3 a4 a5 (.fz Bk) (.fz Pt) (.fz g.d) (.fz (.tuple (g.op.map brD)))) s (fun _ _ _ => trivial) g.op fun b hb => by
      have q := in_brs h1 h2 (o1 b hb) s
      rw [hB] at q
      refine ⟨_, rfl, ?_⟩
      unfold E2_check_net Fn
      simp only [fBin, fVar]
      exact q
    unfold Fn Gd.d at w1
    unfold Cg4 Fn Gd.d
    have at1 : (g.op.all fun _ => true) = true := by rw [List.all_eq_true]; exact fun _ _ => rfl
    simp [z1, w1, w2, at1]
  have cd : cutD (g.op.map brD) (some 1) none = (g.op.drop 1).map brD := by
    have := cut_drop (xs := g.op.map brD) (j := 1) (by simpa using o3)
    rw [← List.map_drop] at this
    exact this
  have pz : pairs (g.op.map brD) ((g.op.drop 1).map brD) = (g.op.zip (g.op.drop 1)).map fun p => .tuple [brD p.1, brD p.2] := by
    unfold pairs
    rw [List.zip_map, List.map_map]
    rfl
  have z2 : (g.op.zip (g.op.drop 1)).length < 16777216 := by
    rw [List.length_zip]
    omega
  have c5 : Cg5 (Fn a0 a1 a2 a3 a4 a5 (.fz Bk) (.fz Pt) (.fz g.d) (.fz (.tuple (g.op.map brD)))) s = .nx (Fn a0 a1 a2 a3 a4 a5 (.fz Bk) (.fz Pt) (.fz g.d) (.fz (.tuple (g.op.map brD)))) s := by
    obtain ⟨zs, w1, w2⟩ := lc_all (fun p : (Str × Int) × (Str × Int) => PyData.tuple [brD p.1, brD p.2]) (gTupT 2 (gsCons (gSet 11) (gsCons (gSet 12) gsNil))) E3_check_net (Fn a0 a1 a2 a3 a4 a5 (.fz Bk) (.fz Pt) (.fz g.d) (.fz (.tuple (g.op.map brD)))) s (fun _ _ _ => trivial) (g.op.zip (g.op.drop 1)) fun p hp => by
      obtain ⟨u1, u2⟩ := o2 p hp
      refine ⟨_, rfl, ?_⟩
      unfold E3_check_net Fn
      have : gLt2 (brD p.1) (brD p.2) s = .ok (.bool true) s := by
        show (if cmpOk (brD p.1) (brD p.2) then Res.ok (PyData.bool (PySem.W.dataLt (brD p.1) (brD p.2))) s else Res.bad) = _
        rw [u1, u2]; rfl
      simp only [fBin, fVar]
      exact this
    unfold Fn Gd.d at w1
    unfold Cg5 Fn Gd.d
    have at2 : ((g.op.zip (g.op.drop 1)).all fun _ => true) = true := by rw [List.all_eq_true]; exact fun _ _ => rfl
    generalize hr : g.op.zip (g.op.drop 1) = r at *
    generalize hq : g.op.drop 1 = q at *
    simp [cd, pz, z2, w1, w2, at2]
  rw [Cgis]
  show sSeq Cg0 _ _ s = _
  rw [sq c0, sq c1, sq c2, sq c3, sq c4, c5]
end LW
namespace LW
open PySem DL L2
def Ru0 : FS := (sIf (fOr (fNot (fB (fUn (gIsi "tuple") (fVar 0)))) (fOr (fB (fBin gNe (fCall gLen2 (fCons (fVar 0) fNil)) (fC (.int 4)))) (fNot (fB (fCallD g_is_frac (fCons (fBin gIx3 (fVar 0) (fC (.int 0))) fNil)))))) (sRet (fC (.bool false))) sNext)
def Ru1 : FS := (sAsg (fVar 0) (gTupT 4 (gsCons (gSet 1) (gsCons (gSet 2) (gsCons (gSet 3) (gsCons (gSet 4) gsNil))))))
def Ru2 : FS := (sIf (fOr (fB (fBin gGt2 (fCallD g_compare (fCons (fTup (fCons (fC (.int 0)) (fCons (fC (.int 1)) fNil))) (fCons (fVar 1) fNil))) (fC (.int 0)))) (fOr (fB (fBin gGe2 (fCallD g_compare (fCons (fVar 1) (fCons (fTup (fCons (fC (.int 1)) (fCons (fC (.int 1)) fNil))) fNil))) (fC (.int 0)))) (fB (fBin gGt2 (fBin gIx3 (fVar 1) (fC (.int 1))) c_MOST_X)))) (sRet (fC (.bool false))) sNext)
def Ru3 : FS := (sRet (fAndV (fCallD g_is_whole (fCons (fVar 3) (fCons (fC (.int 1)) (fCons c_MOST_AGE fNil)))) (fAndV (fCallD g_is_whole (fCons (fVar 2) (fCons (fC (.int 1)) (fCons (fVar 3) fNil)))) (fCallD g_is_whole (fCons (fVar 4) (fCons (fC (.int 1)) (fCons c_MOST_TICKS fNil)))))))
theorem Ruis : F_is_rules = (sSeq Ru0 (sSeq Ru1 (sSeq Ru2 Ru3))) := rfl
def Fr_ (a0 a1 a2 a3 a4 : Slt) : Lcs := [a0, a1, a2, a3, a4]
theorem rules_ok {er : Int × Int} (h : er ∈ ([(0, 1), (1, 10), (1, 4)] : List (Int × Int))) {least most ticks : Int} (h1 : 1 ≤ least) (h2 : least ≤ most) (h3 : most ≤ 6) (h4 : 1 ≤ ticks) (h5 : ticks ≤ 40) (s : Sto) :
    g_is_rules [.tuple [frD er, .int least, .int most, .int ticks]] s = .ok (.bool true) s := by
  have t1 : ∀ ds, tyName (.tuple ds) = some "tuple" := fun _ => rfl
  have t2 : isiTab "tuple" "tuple" = true := by decide
  have q1 : g_is_frac [frD er] s = .ok (.bool true) s := by
    simp only [List.mem_cons, List.not_mem_nil, or_false] at h
    rcases h with rfl | rfl | rfl <;> kernel_rfl
  have q2 : g_compare [.tuple [.int 0, .int 1], frD er] s = .ok (.int (if er.1 = 0 then 0 else -1)) s := by
    simp only [List.mem_cons, List.not_mem_nil, or_false] at h
    rcases h with rfl | rfl | rfl <;> kernel_rfl
  have q3 : g_compare [frD er, .tuple [.int 1, .int 1]] s = .ok (.int (-1)) s := by
    simp only [List.mem_cons, List.not_mem_nil, or_false] at h
    rcases h with rfl | rfl | rfl <;> kernel_rfl
  have q4 : er.2 ≤ 1000 := by
    simp only [List.mem_cons, List.not_mem_nil, or_false] at h
    rcases h with rfl | rfl | rfl <;> decide
  have z : ¬ (0 : Int) < (if er.1 = 0 then 0 else -1) := by split <;> decide
  have z4 : ¬ (1000 : Int) < er.2 := by omega
  have w1 := whole_ok most 1 6 s (by omega) h3
  have w2 := whole_ok least 1 most s h1 h2
  have w3 := whole_ok ticks 1 40 s h4 h5
  have c0 : Ru0 (Fr_ (.fz (.tuple [frD er, .int least, .int most, .int ticks])) .un .un .un .un) s = .nx (Fr_ (.fz (.tuple [frD er, .int least, .int most, .int ticks])) .un .un .un .un) s := by
    unfold Ru0 Fr_
    simp [t1, t2, q1]
  have c1 : Ru1 (Fr_ (.fz (.tuple [frD er, .int least, .int most, .int ticks])) .un .un .un .un) s = .nx (Fr_ (.fz (.tuple [frD er, .int least, .int most, .int ticks])) (.fz (frD er)) (.fz (.int least)) (.fz (.int most)) (.fz (.int ticks))) s := by
    unfold Ru1 Fr_
    simp
  have ix : gIx3 (frD er) (.int 1) s = .ok (.int er.2) s := by unfold frD; simp
  have c2 : Ru2 (Fr_ (.fz (.tuple [frD er, .int least, .int most, .int ticks])) (.fz (frD er)) (.fz (.int least)) (.fz (.int most)) (.fz (.int ticks))) s = .nx (Fr_ (.fz (.tuple [frD er, .int least, .int most, .int ticks])) (.fz (frD er)) (.fz (.int least)) (.fz (.int most)) (.fz (.int ticks))) s := by
    unfold Ru2 Fr_
    generalize (if er.1 = 0 then (0 : Int) else -1) = y at *
    simp [-gIx3, q2, q3, z, ix, z4]
  have c3 : Ru3 (Fr_ (.fz (.tuple [frD er, .int least, .int most, .int ticks])) (.fz (frD er)) (.fz (.int least)) (.fz (.int most)) (.fz (.int ticks))) s = .rt (.bool true) s := by
    unfold Ru3 Fr_
    simp [w1, w2, w3]
  have e : F_is_rules (Fr_ (.fz (.tuple [frD er, .int least, .int most, .int ticks])) .un .un .un .un) s = .rt (.bool true) s := by
    rw [Ruis, sq c0, sq c1, sq c2, c3]
  have r : runF 1 5 F_is_rules [.tuple [frD er, .int least, .int most, .int ticks]] s = .ok (.bool true) s := by
    unfold runF
    rw [if_pos (show [PyData.tuple [frD er, .int least, .int most, .int ticks]].length = 1 from rfl)]
    show (match F_is_rules (Fr_ (.fz (.tuple [frD er, .int least, .int most, .int ticks])) .un .un .un .un) s with
      | .nx _ s' => Res.ok PyData.none s'
      | .rt d s' => .ok d s'
      | .ex x _ s' => .ex x s'
      | _ => .bad) = _
    rw [e]
  show (runF 1 5 F_is_rules [.tuple [frD er, .int least, .int most, .int ticks]] s).noex = _
  rw [r]
  rfl
theorem gds_ok {nb nl ns : Nat} (hb : nb = 1 ∨ nb = 2 ∨ nb = 3) (h1 : nl = 0 ∨ nl = 1 ∨ nl = 2) (h2 : ns = 1 ∨ ns = 2) {ls : List Ln} (hl : ls.map Ln.nm = nmsL nl) (a0 a1 a2 a3 a4 a5 : Slt) (s : Sto) : ∀ (gs : List Gd) (a8 a9 : Slt), (∀ g ∈ gs, GdOk nb nl ns ls g) →
    ∃ b8 b9, forL (gSet 8) B4_check_net (gs.map Gd.d) (Fn a0 a1 a2 a3 a4 a5 (.fz (.list ((bsP nl ns).map brD))) (.fz (.list ((busL nb ++ nmsL nl).map PyData.str))) a8 a9) s =
      .nx (Fn a0 a1 a2 a3 a4 a5 (.fz (.list ((bsP nl ns).map brD))) (.fz (.list ((busL nb ++ nmsL nl).map PyData.str))) b8 b9) s
  | [], a8, a9, _ => ⟨a8, a9, by simp⟩
  | g :: gs, a8, a9, h => by
    obtain ⟨b8, b9, q⟩ := gds_ok hb h1 h2 hl a0 a1 a2 a3 a4 a5 s gs (.fz g.d) (.fz (.tuple (g.op.map brD))) (fun x hx => h x (List.mem_cons_of_mem _ hx))
    have st := gd_step hb h1 h2 hl (h g (by simp)) a0 a1 a2 a3 a4 a5 a9 s
    have gt : gSet 8 g.d (Fn a0 a1 a2 a3 a4 a5 (.fz (.list ((bsP nl ns).map brD))) (.fz (.list ((busL nb ++ nmsL nl).map PyData.str))) a8 a9) s = .ok (Fn a0 a1 a2 a3 a4 a5 (.fz (.list ((bsP nl ns).map brD))) (.fz (.list ((busL nb ++ nmsL nl).map PyData.str))) (.fz g.d) a9) s := rfl
    refine ⟨b8, b9, ?_⟩
    simp only [List.map_cons, forL]
    rw [gt]
    simp only [Res.noex, Res.flo]
    rw [st]
    exact q
theorem check_ok (n : Net) (h : NetOk n) (s : Sto) : g_check_net [n.d] s = .ok .none s := by
  have l0 := lists_ok n h s
  have hl := lns_names h.ls
  have hs := srs_names h.ss
  have b0 := brks_of n h s
  have r0 := rules_ok h.er h.l1 h.l2 (by have := h.l3; omega) h.t1 (by have := h.t2; omega) (ticks := n.ticks) s
  have bl := bus_len h.nb
  have hnb := h.nb
  have c0 : Cn0 (Fn (.fz n.d) .un .un .un .un .un .un .un .un .un) s = .nx (Fn (.fz n.d) .un .un .un .un .un .un .un .un .un) s := by
    unfold Cn0 Fn
    simp [l0]
  have c1 : Cn1 (Fn (.fz n.d) .un .un .un .un .un .un .un .un .un) s = .nx (Fn (.fz n.d) (.fz (busD n.nb)) (.fz (.tuple (n.ls.map Ln.d))) (.fz (.tuple (n.ss.map Sr.d))) (.fz (.tuple (n.gs.map Gd.d))) (.fz (.tuple [frD n.er, .int n.least, .int n.most, .int n.ticks])) .un .un .un .un) s := by
    unfold Cn1 Fn Net.d
    simp
  have c2 : Cn2 (Fn (.fz n.d) (.fz (busD n.nb)) (.fz (.tuple (n.ls.map Ln.d))) (.fz (.tuple (n.ss.map Sr.d))) (.fz (.tuple (n.gs.map Gd.d))) (.fz (.tuple [frD n.er, .int n.least, .int n.most, .int n.ticks])) .un .un .un .un) s = .nx (Fn (.fz n.d) (.fz (busD n.nb)) (.fz (.tuple (n.ls.map Ln.d))) (.fz (.tuple (n.ss.map Sr.d))) (.fz (.tuple (n.gs.map Gd.d))) (.fz (.tuple [frD n.er, .int n.least, .int n.most, .int n.ticks])) (.fz (.list ((bsP n.ls.length n.ss.length).map brD))) (.fz (.list ((busL n.nb ++ nmsL n.ls.length).map PyData.str))) .un .un) s := by
    have lc := fun (e : Lcs) (hn : 10 < e.length) => lc_map Ln.d (fun l => .str l.nm) 10 E1_check_net s (e := e) hn (fun b e h => by unfold E1_check_net; simp [h, Ln.d]) n.ls
    have y1 : n.ls.length < 16777216 := by omega
    have y2 : (busL n.nb).length + n.ls.length ≤ 16777216 := by omega
    have nm : n.ls.map (fun l => PyData.str l.nm) = (nmsL n.ls.length).map PyData.str := by rw [← hl.1, List.map_map]; rfl
    rw [nm] at lc
    have y3 : (busL n.nb).length + (nmsL n.ls.length).length ≤ 16777216 := by rw [← hl.1, List.length_map]; exact y2
    unfold Cn2 Fn busD
    simp [b0, lc, y1, y3]
  obtain ⟨b8, b9, g0⟩ := gds_ok h.nb hl.2 hs.2 hl.1 (.fz n.d) (.fz (busD n.nb)) (.fz (.tuple (n.ls.map Ln.d))) (.fz (.tuple (n.ss.map Sr.d))) (.fz (.tuple (n.gs.map Gd.d))) (.fz (.tuple [frD n.er, .int n.least, .int n.most, .int n.ticks])) s n.gs .un .un (fun g hg => (h.gs.each g hg).1)
  have c3 : Cn3 (Fn (.fz n.d) (.fz (busD n.nb)) (.fz (.tuple (n.ls.map Ln.d))) (.fz (.tuple (n.ss.map Sr.d))) (.fz (.tuple (n.gs.map Gd.d))) (.fz (.tuple [frD n.er, .int n.least, .int n.most, .int n.ticks])) (.fz (.list ((bsP n.ls.length n.ss.length).map brD))) (.fz (.list ((busL n.nb ++ nmsL n.ls.length).map PyData.str))) .un .un) s = .nx (Fn (.fz n.d) (.fz (busD n.nb)) (.fz (.tuple (n.ls.map Ln.d))) (.fz (.tuple (n.ss.map Sr.d))) (.fz (.tuple (n.gs.map Gd.d))) (.fz (.tuple [frD n.er, .int n.least, .int n.most, .int n.ticks])) (.fz (.list ((bsP n.ls.length n.ss.length).map brD))) (.fz (.list ((busL n.nb ++ nmsL n.ls.length).map PyData.str))) b8 b9) s := g0
  have c4 : Cn4 (Fn (.fz n.d) (.fz (busD n.nb)) (.fz (.tuple (n.ls.map Ln.d))) (.fz (.tuple (n.ss.map Sr.d))) (.fz (.tuple (n.gs.map Gd.d))) (.fz (.tuple [frD n.er, .int n.least, .int n.most, .int n.ticks])) (.fz (.list ((bsP n.ls.length n.ss.length).map brD))) (.fz (.list ((busL n.nb ++ nmsL n.ls.length).map PyData.str))) b8 b9) s = .nx (Fn (.fz n.d) (.fz (busD n.nb)) (.fz (.tuple (n.ls.map Ln.d))) (.fz (.tuple (n.ss.map Sr.d))) (.fz (.tuple (n.gs.map Gd.d))) (.fz (.tuple [frD n.er, .int n.least, .int n.most, .int n.ticks])) (.fz (.list ((bsP n.ls.length n.ss.length).map brD))) (.fz (.list ((busL n.nb ++ nmsL n.ls.length).map PyData.str))) b8 b9) s := by
    unfold Cn4 Fn
    simp [r0]
  have e : F_check_net (Fn (.fz n.d) .un .un .un .un .un .un .un .un .un) s = .nx (Fn (.fz n.d) (.fz (busD n.nb)) (.fz (.tuple (n.ls.map Ln.d))) (.fz (.tuple (n.ss.map Sr.d))) (.fz (.tuple (n.gs.map Gd.d))) (.fz (.tuple [frD n.er, .int n.least, .int n.most, .int n.ticks])) (.fz (.list ((bsP n.ls.length n.ss.length).map brD))) (.fz (.list ((busL n.nb ++ nmsL n.ls.length).map PyData.str))) b8 b9) s := by
    rw [Cnis, sq c0, sq c1, sq c2, sq c3, c4]
  have r : runF 1 13 F_check_net [n.d] s = .ok .none s := by
    unfold runF
    rw [if_pos (show [n.d].length = 1 from rfl)]
    show (match F_check_net (Fn (.fz n.d) .un .un .un .un .un .un .un .un .un) s with
      | .nx _ s' => Res.ok PyData.none s'
      | .rt d s' => .ok d s'
      | .ex x _ s' => .ex x s'
      | _ => .bad) = _
    rw [e]
  exact r
end LW
namespace LW
open PySem DL L2
def bx (a b : Dat) : Dat := .tuple [.int 2, a, b]
def Rs (r : Res Dat) (s : Sto) : Prop := ∃ a b, r = .ex (bx a b) s
def Rf (r : Flo) (s : Sto) : Prop := ∃ a b e, r = .ex (bx a b) e s
theorem sqx {F K : FS} {e e1 : Lcs} {s s1 : Sto} {x : Dat} (h : F e s = .ex x e1 s1) : sSeq F K e s = .ex x e1 s1 := by
  simp only [sSeq, h, Flo.seq]
theorem sqR {F K : FS} {e : Lcs} {s : Sto} (h : Rf (F e s) s) : Rf (sSeq F K e s) s := by
  obtain ⟨a, b, e1, h⟩ := h
  exact ⟨a, b, e1, sqx h⟩
theorem sqN {F K : FS} {e e1 : Lcs} {s s1 s2 : Sto} (h : F e s = .nx e1 s1) (k : Rf (K e1 s1) s2) : Rf (sSeq F K e s) s2 := by rw [sq h]; exact k
theorem drop_ex {Fa : FE} {e : Lcs} {s s1 : Sto} {x : Dat} (h : Fa e s = .ex x s1) : sDrop Fa e s = .ex x e s1 := by simp [h]
theorem drop_chk {Fa : FE} {e : Lcs} {s : Sto} {a b : Dat} (h : Fa e s = .ex (bx a b) s) : Rf (sDrop Fa e s) s := ⟨a, b, e, drop_ex h⟩
theorem is_net_ok {d : Dat} {s : Sto} (h : g_check_net [d] s = .ok .none s) : g_is_net [d] s = .ok (.bool true) s := by
  unfold g_is_net F_is_net
  simp [sTry, h]
theorem is_net_bad {d : Dat} {s : Sto} (h : Rs (g_check_net [d] s) s) : g_is_net [d] s = .ok (.bool false) s := by
  obtain ⟨a, b, h⟩ := h
  unfold g_is_net F_is_net
  simp [sTry, h, bx]
theorem runF_bad {n m : Nat} {F : FS} {ds : List Dat} {s : Sto} (hl : ds.length = n) (h : Rf (F (ds.map Slt.fz ++ List.replicate (m - n) Slt.un) s) s) : Rs (runF n m F ds s) s := by
  obtain ⟨a, b, e, h⟩ := h
  refine ⟨a, b, ?_⟩
  unfold runF
  rw [if_pos hl, h]
theorem net_bad1 {d : Dat} {s : Sto} (h : Rs (g_check_lists [d] s) s) : Rs (g_check_net [d] s) s := by
  obtain ⟨a, b, h⟩ := h
  refine runF_bad rfl ?_
  rw [Cnis]
  refine sqR (drop_chk (a := a) (b := b) ?_)
  simp [h]
theorem forL_cons {F : FG} {B : FS} {d : Dat} {ds : List Dat} {e e1 e2 : Lcs} {s s1 s2 : Sto} (h : F d e s = .ok e1 s1) (k : B e1 s1 = .nx e2 s2) : forL F B (d :: ds) e s = forL F B ds e2 s2 := by
  simp only [forL]
  rw [h]
  simp only [Res.noex, Res.flo]
  rw [k]
theorem forL_bad {F : FG} {B : FS} {d : Dat} {ds : List Dat} {e e1 : Lcs} {s s1 s2 : Sto} (h : F d e s = .ok e1 s1) (k : Rf (B e1 s1) s2) : Rf (forL F B (d :: ds) e s) s2 := by
  obtain ⟨a, b, e2, k⟩ := k
  refine ⟨a, b, e2, ?_⟩
  simp only [forL]
  rw [h]
  simp only [Res.noex, Res.flo]
  rw [k]
def Nmd (x : Str) : Prop := ∀ s, g_is_name [.str x] s = .ok (.bool true) s
theorem row_stepN (d a1 a2 a3 a4 a5 a7 a8 a9 : Slt) (ks : List Str) (p : Str × List Dat) (nm : Nmd p.1) (hk : p.1 ∉ ks) (hl : ks.length ≤ 100) (hl2 : p.2.length ≤ 100) (s : Sto) (h7 : a7 = .fz (row p)) :
    B3_check_lists (Fc d a1 a2 a3 a4 a5 ks a7 a8 a9) s = .nx (Fc d a1 a2 a3 a4 a5 (ks ++ [p.1]) a7 a8 a9) s := by
  subst h7
  have t1 : ∀ ds, tyName (.tuple ds) = some "tuple" := fun _ => rfl
  have t2 : isiTab "tuple" "tuple" = true := by decide
  have nm := nm s
  have g := get_no hk
  have z : (0 : Int) < p.2.length + 1 := by omega
  have kl : (kvs ks).length < 16777216 := by unfold kvs; rw [List.length_map]; omega
  have c0 : Cr0 (Fc d a1 a2 a3 a4 a5 ks (.fz (row p)) a8 a9) s = .nx (Fc d a1 a2 a3 a4 a5 ks (.fz (row p)) a8 a9) s := by
    unfold Cr0 Fc row
    simp [t1, t2, nm, z]
  have c1 : Cr1 (Fc d a1 a2 a3 a4 a5 ks (.fz (row p)) a8 a9) s = .nx (Fc d a1 a2 a3 a4 a5 ks (.fz (row p)) a8 a9) s := by
    unfold Cr1 Fc row
    simp [DL.keyOf, g]
  have c2 : Cr2 (Fc d a1 a2 a3 a4 a5 ks (.fz (row p)) a8 a9) s = .nx (Fc d a1 a2 a3 a4 a5 (ks ++ [p.1]) (.fz (row p)) a8 a9) s := by
    unfold Cr2 Fc row
    simp [DL.keyOf, kl, put_no hk]
  rw [Cris]
  show sSeq Cr0 (sSeq Cr1 Cr2) _ s = _
  rw [sq c0, sq c1, c2]
theorem get_yes {ks : List Str} {x : Str} (h : x ∈ ks) : getK (kvs ks) (.inr x) = some (.bool true) := by
  unfold getK kvs
  have : (List.map (fun x => ((.inr x : Key), PyData.bool true)) ks).find? (fun kv => decide (kv.1 = (.inr x : Key))) = some (.inr x, .bool true) := by
    induction ks with
    | nil => cases h
    | cons y ks ih =>
      by_cases e : y = x
      · subst e
        simp
      · rw [List.map_cons, List.find?_cons_of_neg (by simpa using e)]
        exact ih ((List.mem_cons.mp h).resolve_left (Ne.symm e))
  first
    | (rw [this]; rfl)
    | (simp only [this, Option.map_some])
theorem row_bad (d a1 a2 a3 a4 a5 a7 a8 a9 : Slt) (ks : List Str) (p : Str × List Dat) (s : Sto) (h : g_is_name [.str p.1] s = .ok (.bool false) s ∨ (Nmd p.1 ∧ p.1 ∈ ks)) (h7 : a7 = .fz (row p)) :
    Rf (B3_check_lists (Fc d a1 a2 a3 a4 a5 ks a7 a8 a9) s) s := by
  subst h7
  have t1 : ∀ ds, tyName (.tuple ds) = some "tuple" := fun _ => rfl
  have t2 : isiTab "tuple" "tuple" = true := by decide
  have z : (0 : Int) < p.2.length + 1 := by omega
  rw [Cris]
  show Rf (sSeq Cr0 (sSeq Cr1 Cr2) _ s) s
  rcases h with nm | ⟨nm, hk⟩
  · refine sqR (drop_chk (a := .none) (b := .str "name") ?_)
    unfold Fc row
    simp [t1, t2, nm, z, bx]
  · have nm := nm s
    have g := get_yes hk
    have c0 : Cr0 (Fc d a1 a2 a3 a4 a5 ks (.fz (row p)) a8 a9) s = .nx (Fc d a1 a2 a3 a4 a5 ks (.fz (row p)) a8 a9) s := by
      unfold Cr0 Fc row
      simp [t1, t2, nm, z]
    refine sqN c0 (sqR (drop_chk (a := .str p.1) (b := .str "told twice") ?_))
    unfold Fc row
    simp [DL.keyOf, g, bx]
theorem rows_tail (d a1 a2 a3 a4 a5 a8 a9 : Slt) (s : Sto) (tl : List Dat) : ∀ (ps : List (Str × List Dat)) (ks : List Str) (a7 : Slt), (∀ p ∈ ps, Nmd p.1 ∧ p.2.length ≤ 100) → (ks ++ ps.map Prod.fst).Nodup → ks.length + ps.length ≤ 100 →
    ∃ b7, forL (gSet 7) B3_check_lists (ps.map row ++ tl) (Fc d a1 a2 a3 a4 a5 ks a7 a8 a9) s = forL (gSet 7) B3_check_lists tl (Fc d a1 a2 a3 a4 a5 (ks ++ ps.map Prod.fst) b7 a8 a9) s
  | [], ks, a7, _, _, _ => ⟨a7, by simp⟩
  | p :: ps, ks, a7, hp, hd, hl => by
    simp only [List.map_cons, List.length_cons, List.cons_append] at hd hl ⊢
    have hk : p.1 ∉ ks := fun h => by
      have := (List.nodup_append.mp hd).2.2 p.1 h p.1 (by simp)
      exact this rfl
    have e : ks ++ p.1 :: ps.map Prod.fst = (ks ++ [p.1]) ++ ps.map Prod.fst := by simp
    rw [e] at hd ⊢
    obtain ⟨b7, q⟩ := rows_tail d a1 a2 a3 a4 a5 a8 a9 s tl ps (ks ++ [p.1]) (.fz (row p)) (fun q hq => hp q (List.mem_cons_of_mem _ hq)) hd (by simp; omega)
    have st := row_stepN d a1 a2 a3 a4 a5 (.fz (row p)) a8 a9 ks p (hp p (by simp)).1 hk (by omega) (hp p (by simp)).2 s rfl
    exact ⟨b7, by rw [forL_cons rfl st]; exact q⟩
theorem keep_tail {α : Type} (f : α → Dat) (G : FG) (B : FS) (E : Slt → Lcs) (s : Sto) (tl : List Dat) (hg : ∀ a b, G (f a) (E b) s = .ok (E (.fz (f a))) s) : ∀ (xs : List α) (b : Slt), (∀ a ∈ xs, B (E (.fz (f a))) s = .nx (E (.fz (f a))) s) →
    ∃ b', forL G B (xs.map f ++ tl) (E b) s = forL G B tl (E b') s
  | [], b, _ => ⟨b, by simp⟩
  | a :: xs, b, h => by
    obtain ⟨b', q⟩ := keep_tail f G B E s tl hg xs (.fz (f a)) (fun x hx => h x (List.mem_cons_of_mem _ hx))
    exact ⟨b', by rw [List.map_cons, List.cons_append, forL_cons (hg a b) (h a (by simp))]; exact q⟩
end LW
namespace LW
open PySem DL L2
def D5 (b l so g r : List Dat) : Dat := .tuple [.tuple b, .tuple l, .tuple so, .tuple g, .tuple r]
def Fz5 (b l so g r : List Dat) (ks : List Str) (a7 a8 a9 : Slt) : Lcs := Fc (.fz (D5 b l so g r)) (.fz (.tuple b)) (.fz (.tuple l)) (.fz (.tuple so)) (.fz (.tuple g)) (.fz (.tuple r)) ks a7 a8 a9
def Gz5 (b l so g r : List Dat) : Lcs := G0 (.fz (D5 b l so g r)) (.fz (.tuple b)) (.fz (.tuple l)) (.fz (.tuple so)) (.fz (.tuple g)) (.fz (.tuple r)) .un
theorem lists_open (b l so g r : List Dat) (s : Sto) : F_check_lists (G0 (.fz (D5 b l so g r)) .un .un .un .un .un .un) s = sSeq Cl3 (sSeq Cl4 (sSeq Cl5 (sSeq Cl6 (sSeq Cl7 Cl8)))) (Gz5 b l so g r) s := by
  have t1 : ∀ ds, tyName (.tuple ds) = some "tuple" := fun _ => rfl
  have t2 : isiTab "tuple" "tuple" = true := by decide
  have c0 : Cl0 (G0 (.fz (D5 b l so g r)) .un .un .un .un .un .un) s = .nx (G0 (.fz (D5 b l so g r)) .un .un .un .un .un .un) s := by
    unfold Cl0 G0 D5
    simp [t1, t2]
  have c1 : Cl1 (G0 (.fz (D5 b l so g r)) .un .un .un .un .un .un) s = .nx (G0 (.fz (D5 b l so g r)) .un .un .un .un .un .un) s := by
    unfold Cl1 G0 D5 E1_check_lists
    simp [t1, t2, Res.noex]
  have c2 : Cl2 (G0 (.fz (D5 b l so g r)) .un .un .un .un .un .un) s = .nx (Gz5 b l so g r) s := by
    unfold Cl2 Gz5 G0 D5
    simp
  rw [Clis, sq c0, sq c1, sq c2]
theorem many_bad1 (b l so g r : List Dat) (s : Sto) (h : b.length = 0 ∨ 6 < b.length) : Rf (F_check_lists (G0 (.fz (D5 b l so g r)) .un .un .un .un .un .un) s) s := by
  rw [lists_open]
  refine sqR (drop_chk (a := .none) (b := .str "many") ?_)
  unfold Gz5 G0
  rcases h with h | h
  · have z1 : b = [] := List.length_eq_zero_iff.mp h
    subst z1
    simp [bx]
  · have z1 : (1 : Int) ≤ b.length := by omega
    have z2 : ¬ (b.length : Int) ≤ 6 := by omega
    simp [bx, z1, z2]
theorem many_bad2 (b l so g r : List Dat) (s : Sto) (h1 : 1 ≤ b.length) (h2 : b.length ≤ 6) (h3 : l.length ≤ 8) (h : so.length = 0 ∨ 3 < so.length) : Rf (F_check_lists (G0 (.fz (D5 b l so g r)) .un .un .un .un .un .un) s) s := by
  rw [lists_open]
  have z1 : (1 : Int) ≤ b.length := by omega
  have z2 : (b.length : Int) ≤ 6 := by omega
  have z3 : (l.length : Int) ≤ 8 := by omega
  have c3 : Cl3 (Gz5 b l so g r) s = .nx (Gz5 b l so g r) s := by
    unfold Cl3 Gz5 G0
    simp [z1, z2, z3]
  refine sqN c3 (sqR (drop_chk (a := .none) (b := .str "many") ?_))
  unfold Gz5 G0
  rcases h with h | h
  · have z1 : so = [] := List.length_eq_zero_iff.mp h
    subst z1
    simp [bx]
  · have z1 : (1 : Int) ≤ so.length := by omega
    have z2 : ¬ (so.length : Int) ≤ 3 := by omega
    simp [bx, z1, z2]
theorem lists_head (b l so g r : List Dat) (s : Sto) (h1 : 1 ≤ b.length) (h2 : b.length ≤ 6) (h3 : l.length ≤ 8) (h4 : 1 ≤ so.length) (h5 : so.length ≤ 3) (h6 : g.length ≤ 16) :
    F_check_lists (G0 (.fz (D5 b l so g r)) .un .un .un .un .un .un) s = sSeq Cl6 (sSeq Cl7 Cl8) (Fz5 b l so g r [] .un .un .un) s := by
  have z1 : (1 : Int) ≤ b.length := by omega
  have z2 : (b.length : Int) ≤ 6 := by omega
  have z3 : (l.length : Int) ≤ 8 := by omega
  have z4 : (1 : Int) ≤ so.length := by omega
  have z5 : (so.length : Int) ≤ 3 := by omega
  have z6 : (g.length : Int) ≤ 16 := by omega
  have c3 : Cl3 (Gz5 b l so g r) s = .nx (Gz5 b l so g r) s := by
    unfold Cl3 Gz5 G0
    simp [z1, z2, z3]
  have c4 : Cl4 (Gz5 b l so g r) s = .nx (Gz5 b l so g r) s := by
    unfold Cl4 Gz5 G0
    simp [z4, z5, z6]
  have c5 : Cl5 (Gz5 b l so g r) s = .nx (Fz5 b l so g r [] .un .un .un) s := by
    unfold Cl5 Gz5 Fz5 G0 Fc kvs
    simp
  rw [lists_open, sq c3, sq c4, sq c5]
theorem rows_it (bs : List Str) (l so g r : List Dat) (s : Sto) (hl : bs.length + (l.length + (so.length + g.length)) ≤ 1000) :
    (fIter (fLst (fStar (fLc (fIter (fVar 1)) (gSet 11) cYes E2_check_lists [11]) (fStar (fVar 2) (fStar (fVar 3) (fStar (fVar 4) fNil)))))) (Fz5 (bs.map PyData.str) l so g r [] .un .un .un) s = .ok (bs.map (fun b => .tuple [.str b]) ++ (l ++ (so ++ g))) s := by
  have lc := fun (e : Lcs) (hn : 11 < e.length) => lc_map PyData.str (fun b => .tuple [.str b]) 11 E2_check_lists s (e := e) hn (fun b e h => by unfold E2_check_lists; simp [h]) bs
  have y1 : bs.length < 16777216 := by omega
  have y2 : bs.length + (l.length + (so.length + g.length)) ≤ 16777216 := by omega
  unfold Fz5 Fc
  simp [lc, y1, y2]
theorem lists_rows_bad (bs : List Str) (l so g r : List Dat) (s : Sto) (h1 : 1 ≤ bs.length) (h2 : bs.length ≤ 6) (h3 : l.length ≤ 8) (h4 : 1 ≤ so.length) (h5 : so.length ≤ 3) (h6 : g.length ≤ 16) (ps : List (Str × List Dat)) (p : Str × List Dat) (tl : List Dat)
    (hr : bs.map (fun b => .tuple [.str b]) ++ (l ++ (so ++ g)) = ps.map row ++ row p :: tl) (hp : ∀ q ∈ ps, Nmd q.1 ∧ q.2.length ≤ 100) (nd : (ps.map Prod.fst).Nodup) (hl : ps.length ≤ 100) (hb : g_is_name [.str p.1] s = .ok (.bool false) s ∨ (Nmd p.1 ∧ p.1 ∈ ps.map Prod.fst)) :
    Rs (g_check_lists [D5 (bs.map PyData.str) l so g r] s) s := by
  refine runF_bad rfl ?_
  show Rf (F_check_lists (G0 (.fz (D5 (bs.map PyData.str) l so g r)) .un .un .un .un .un .un) s) s
  rw [lists_head _ l so g r s (by simpa using h1) (by simpa using h2) h3 h4 h5 h6]
  refine sqR ?_
  unfold Cl6
  rw [sFor, rows_it bs l so g r s (by omega)]
  show Rf (forL (gSet 7) B3_check_lists (bs.map (fun b => .tuple [.str b]) ++ (l ++ (so ++ g))) (Fz5 (bs.map PyData.str) l so g r [] .un .un .un) s) s
  rw [hr]
  obtain ⟨b7, e⟩ := rows_tail (.fz (D5 (bs.map PyData.str) l so g r)) (.fz (.tuple (bs.map PyData.str))) (.fz (.tuple l)) (.fz (.tuple so)) (.fz (.tuple g)) (.fz (.tuple r)) .un .un s (row p :: tl) ps [] .un hp (by simpa using nd) (by simpa using hl)
  unfold Fz5
  rw [e]
  exact forL_bad rfl (row_bad _ _ _ _ _ _ _ _ _ _ p s (by simpa using hb) rfl)
theorem lists_rows_ok (bs : List Str) (l so g r : List Dat) (s : Sto) (h1 : 1 ≤ bs.length) (h2 : bs.length ≤ 6) (h3 : l.length ≤ 8) (h4 : 1 ≤ so.length) (h5 : so.length ≤ 3) (h6 : g.length ≤ 16) (ps : List (Str × List Dat))
    (hr : bs.map (fun b => .tuple [.str b]) ++ (l ++ (so ++ g)) = ps.map row) (hp : ∀ q ∈ ps, Nmd q.1 ∧ q.2.length ≤ 100) (nd : (ps.map Prod.fst).Nodup) (hl : ps.length ≤ 100) :
    ∃ ks b7, F_check_lists (G0 (.fz (D5 (bs.map PyData.str) l so g r)) .un .un .un .un .un .un) s = sSeq Cl7 Cl8 (Fz5 (bs.map PyData.str) l so g r ks b7 .un .un) s := by
  rw [lists_head _ l so g r s (by simpa using h1) (by simpa using h2) h3 h4 h5 h6]
  obtain ⟨b7, e⟩ := rows_tail (.fz (D5 (bs.map PyData.str) l so g r)) (.fz (.tuple (bs.map PyData.str))) (.fz (.tuple l)) (.fz (.tuple so)) (.fz (.tuple g)) (.fz (.tuple r)) .un .un s [] ps [] .un hp (by simpa using nd) (by simpa using hl)
  refine ⟨[] ++ ps.map Prod.fst, b7, sq ?_⟩
  unfold Cl6
  rw [sFor, rows_it bs l so g r s (by omega)]
  show forL (gSet 7) B3_check_lists (bs.map (fun b => .tuple [.str b]) ++ (l ++ (so ++ g))) (Fz5 (bs.map PyData.str) l so g r [] .un .un .un) s = _
  rw [hr]
  rw [List.append_nil] at e
  unfold Fz5
  rw [e]
  rfl
theorem lists_line_bad {nb : Nat} (hb : nb = 1 ∨ nb = 2 ∨ nb = 3) (ls : List Ln) (hls : ∀ l ∈ ls, LnOk nb l) (x : Dat) (so g r : List Dat) (ks : List Str) (b7 : Slt) (s : Sto)
    (hx : ∀ d a2 a3 a4 a5 a7 a9 ks, Rf (B4_check_lists (Fc d (.fz (busD nb)) a2 a3 a4 a5 ks a7 (.fz x) a9) s) s) :
    Rf (sSeq Cl7 Cl8 (Fz5 ((busL nb).map PyData.str) (ls.map Ln.d ++ [x]) so g r ks b7 .un .un) s) s := by
  refine sqR ?_
  obtain ⟨b8, e⟩ := keep_tail Ln.d (gSet 8) B4_check_lists (fun b => Fz5 ((busL nb).map PyData.str) (ls.map Ln.d ++ [x]) so g r ks b7 b .un) s [x] (fun a b => rfl) ls .un (fun l hl => ln_step hb _ _ _ _ _ _ _ ks l (hls l hl) s)
  show Rf (forL (gSet 8) B4_check_lists (ls.map Ln.d ++ [x]) (Fz5 ((busL nb).map PyData.str) (ls.map Ln.d ++ [x]) so g r ks b7 .un .un) s) s
  rw [e]
  exact forL_bad rfl (hx _ _ _ _ _ _ _ _)
theorem lists_lines_ok {nb : Nat} (hb : nb = 1 ∨ nb = 2 ∨ nb = 3) (ls : List Ln) (hls : ∀ l ∈ ls, LnOk nb l) (so g r : List Dat) (ks : List Str) (b7 : Slt) (s : Sto) :
    ∃ b8, sSeq Cl7 Cl8 (Fz5 ((busL nb).map PyData.str) (ls.map Ln.d) so g r ks b7 .un .un) s = Cl8 (Fz5 ((busL nb).map PyData.str) (ls.map Ln.d) so g r ks b7 b8 .un) s := by
  obtain ⟨b8, e⟩ := keep_tail Ln.d (gSet 8) B4_check_lists (fun b => Fz5 ((busL nb).map PyData.str) (ls.map Ln.d) so g r ks b7 b .un) s [] (fun a b => rfl) ls .un (fun l hl => ln_step hb _ _ _ _ _ _ _ ks l (hls l hl) s)
  rw [List.append_nil] at e
  exact ⟨b8, sq e⟩
theorem lists_source_bad {nb : Nat} (x : Dat) (l g r : List Dat) (ks : List Str) (b7 b8 : Slt) (s : Sto)
    (hx : ∀ d a2 a3 a4 a5 a7 a8 ks, Rf (B5_check_lists (Fc d (.fz (busD nb)) a2 a3 a4 a5 ks a7 a8 (.fz x)) s) s) :
    Rf (Cl8 (Fz5 ((busL nb).map PyData.str) l [x] g r ks b7 b8 .un) s) s := by
  show Rf (forL (gSet 9) B5_check_lists [x] (Fz5 ((busL nb).map PyData.str) l [x] g r ks b7 b8 .un) s) s
  exact forL_bad rfl (hx _ _ _ _ _ _ _ _)
theorem lists_sources_ok {nb : Nat} (hb : nb = 1 ∨ nb = 2 ∨ nb = 3) (ss : List Sr) (hss : ∀ l ∈ ss, SrOk nb l) (l g r : List Dat) (ks : List Str) (b7 b8 : Slt) (s : Sto) :
    ∃ b9, Cl8 (Fz5 ((busL nb).map PyData.str) l (ss.map Sr.d) g r ks b7 b8 .un) s = .nx (Fz5 ((busL nb).map PyData.str) l (ss.map Sr.d) g r ks b7 b8 b9) s := by
  obtain ⟨b9, e⟩ := keep_tail Sr.d (gSet 9) B5_check_lists (fun b => Fz5 ((busL nb).map PyData.str) l (ss.map Sr.d) g r ks b7 b8 b) s [] (fun a b => rfl) ss .un (fun l hl => sr_step hb _ _ _ _ _ _ _ ks l (hss l hl) s)
  rw [List.append_nil] at e
  exact ⟨b9, e⟩
end LW
namespace LW
open PySem DL L2
theorem nmd_nm {x : Str} (h : x ∈ NM) : Nmd x := name_all x h
def lnR (l : Ln) : Str × List Dat := (l.nm, [.str l.a, .str l.b, .int l.x])
def srR (l : Sr) : Str × List Dat := (l.nm, [.str l.b, .int l.x])
def gdR (g : Gd) : Str × List Dat := (g.nm, [g.td.d, .int g.dl, .tuple (g.op.map brD)])
def rowsX (nb : Nat) (ls : List Ln) (ss : List Sr) (gr : List (Str × List Dat)) : List (Str × List Dat) := (busL nb).map (fun b => (b, ([] : List Dat))) ++ (ls.map lnR ++ (ss.map srR ++ gr))
theorem rowsX_map (nb : Nat) (ls : List Ln) (ss : List Sr) (gr : List (Str × List Dat)) : (busL nb).map (fun b => (.tuple [.str b] : Dat)) ++ (ls.map Ln.d ++ (ss.map Sr.d ++ gr.map row)) = (rowsX nb ls ss gr).map row := by
  unfold rowsX
  simp only [List.map_append, List.map_map]
  rfl
theorem rowsX_fst (nb : Nat) (ls : List Ln) (ss : List Sr) (gr : List (Str × List Dat)) : (rowsX nb ls ss gr).map Prod.fst = busL nb ++ (ls.map Ln.nm ++ (ss.map Sr.nm ++ gr.map Prod.fst)) := by
  unfold rowsX
  simp only [List.map_append, List.map_map]
  have a : (Prod.fst ∘ lnR) = Ln.nm := rfl
  have b : (Prod.fst ∘ srR) = Sr.nm := rfl
  have d : (busL nb).map (Prod.fst ∘ fun b => (b, ([] : List Dat))) = busL nb := by
    have : (Prod.fst ∘ fun b => (b, ([] : List Dat))) = (id : Str → Str) := rfl
    rw [this, List.map_id]
  rw [a, b, d]
theorem rowsX_len {nb : Nat} {ls : List Ln} {ss : List Sr} {gr : List (Str × List Dat)} (hg : ∀ p ∈ gr, p.2.length ≤ 100) : ∀ q ∈ rowsX nb ls ss gr, q.2.length ≤ 100 := by
  intro q hq
  unfold rowsX at hq
  rcases List.mem_append.mp hq with h | h
  · obtain ⟨b, _, rfl⟩ := List.mem_map.mp h
    simp
  · rcases List.mem_append.mp h with h | h
    · obtain ⟨b, _, rfl⟩ := List.mem_map.mp h
      simp [lnR]
    · rcases List.mem_append.mp h with h | h
      · obtain ⟨b, _, rfl⟩ := List.mem_map.mp h
        simp [srR]
      · exact hg q h
theorem names_X {n : Net} (h : NetOk n) {gn : List Str} (hg : ∀ x ∈ gn, x ∈ GN) (nd : gn.Nodup) : (busL n.nb ++ (n.ls.map Ln.nm ++ (n.ss.map Sr.nm ++ gn))).Nodup ∧ ∀ x ∈ busL n.nb ++ (n.ls.map Ln.nm ++ (n.ss.map Sr.nm ++ gn)), x ∈ NM := by
  rw [(lns_names h.ls).1, (srs_names h.ss).1]
  have q : ∀ nb nl ns, (nb = 1 ∨ nb = 2 ∨ nb = 3) → (nl = 0 ∨ nl = 1 ∨ nl = 2) → (ns = 1 ∨ ns = 2) → (busL nb ++ nmsL nl ++ nmsG ns).Nodup ∧ ∀ x ∈ busL nb ++ nmsL nl ++ nmsG ns, x ∈ NM ∧ x ∉ GN := by
    intro nb nl ns h1 h2 h3
    rcases h1 with rfl | rfl | rfl <;> rcases h2 with rfl | rfl | rfl <;> rcases h3 with rfl | rfl <;> decide +kernel
  obtain ⟨q1, q2⟩ := q n.nb n.ls.length n.ss.length h.nb (lns_names h.ls).2 (srs_names h.ss).2
  have e : busL n.nb ++ (nmsL n.ls.length ++ (nmsG n.ss.length ++ gn)) = (busL n.nb ++ nmsL n.ls.length ++ nmsG n.ss.length) ++ gn := by simp
  rw [e]
  refine ⟨List.nodup_append.mpr ⟨q1, nd, fun a ha b hb e => ?_⟩, fun x hx => ?_⟩
  · subst e
    exact (q2 a ha).2 (hg a hb)
  · rcases List.mem_append.mp hx with h1 | h1
    · exact (q2 x h1).1
    · exact List.mem_append_right _ (hg x h1)
def Dn (n : Net) (gr : List (Str × List Dat)) (r : List Dat) : Dat := D5 ((busL n.nb).map PyData.str) (n.ls.map Ln.d) (n.ss.map Sr.d) (gr.map row) r
structure GrOk (gr : List (Str × List Dat)) : Prop where
  nm : ∀ p ∈ gr, p.1 ∈ GN
  ln : ∀ p ∈ gr, p.2.length ≤ 100
  nd : (gr.map Prod.fst).Nodup
  le : gr.length ≤ 16
theorem base_lists {n : Net} (h : NetOk n) {gr : List (Str × List Dat)} (hg : GrOk gr) (r : List Dat) (s : Sto) : g_check_lists [Dn n gr r] s = .ok .none s := by
  have bl := bus_len h.nb
  have l1 := (lns_names h.ls).2
  have l2 := (srs_names h.ss).2
  have hnb := h.nb
  have l4 := hg.le
  obtain ⟨q1, q2⟩ := names_X h (gn := gr.map Prod.fst) (fun x hx => by
    obtain ⟨p, hp, rfl⟩ := List.mem_map.mp hx
    exact hg.nm p hp) hg.nd
  obtain ⟨ks, b7, e1⟩ := lists_rows_ok (busL n.nb) (n.ls.map Ln.d) (n.ss.map Sr.d) (gr.map row) r s (by omega) (by omega) (by simp; omega) (by simp; omega) (by simp; omega) (by simp; omega) (rowsX n.nb n.ls n.ss gr) (rowsX_map n.nb n.ls n.ss gr)
    (fun q hq => ⟨nmd_nm (q2 _ (by rw [← rowsX_fst]; exact List.mem_map_of_mem hq)), rowsX_len hg.ln q hq⟩) (by rw [rowsX_fst]; exact q1) (by unfold rowsX; simp; omega)
  obtain ⟨b8, e2⟩ := lists_lines_ok h.nb n.ls (lns_each h.ls) (n.ss.map Sr.d) (gr.map row) r ks b7 s
  obtain ⟨b9, e3⟩ := lists_sources_ok h.nb n.ss (srs_each h.ss) (n.ls.map Ln.d) (gr.map row) r ks b7 b8 s
  have e : F_check_lists (G0 (.fz (Dn n gr r)) .un .un .un .un .un .un) s = .nx (Fz5 ((busL n.nb).map PyData.str) (n.ls.map Ln.d) (n.ss.map Sr.d) (gr.map row) r ks b7 b8 b9) s := by
    unfold Dn
    rw [e1, e2, e3]
  show runF 1 12 F_check_lists [Dn n gr r] s = .ok .none s
  unfold runF
  rw [if_pos (show [Dn n gr r].length = 1 from rfl)]
  show (match F_check_lists (G0 (.fz (Dn n gr r)) .un .un .un .un .un .un) s with
      | .nx _ s' => Res.ok PyData.none s'
      | .rt d s' => .ok d s'
      | .ex x _ s' => .ex x s'
      | _ => .bad) = _
  rw [e]
theorem base_brks {n : Net} (h : NetOk n) (gr : List (Str × List Dat)) (r : List Dat) (s : Sto) : g_breakers_of [Dn n gr r] s = .ok (.list ((bsP n.ls.length n.ss.length).map brD)) s := by
  obtain ⟨nb, ls, ss, gs, er, least, most, ticks⟩ := n
  have hl := h.ls
  have hs := h.ss
  simp only [] at hl hs ⊢
  unfold g_breakers_of F_breakers_of Dn D5
  cases hl with
  | none =>
    cases hs with
    | one l o e => simp [fLc2, lc2L, Ln.d, Sr.d, E1_breakers_of, E2_breakers_of, Res.noex, bsP, nmsL, nmsG, brD, e, g0_is]
    | two l m o e o2 e2 => simp [fLc2, lc2L, Ln.d, Sr.d, E1_breakers_of, E2_breakers_of, Res.noex, bsP, nmsL, nmsG, brD, e, e2, g0_is, g1_is]
  | one a _ _ q =>
    cases hs with
    | one l o e => simp [fLc2, lc2L, Ln.d, Sr.d, E1_breakers_of, E2_breakers_of, Res.noex, bsP, nmsL, nmsG, brD, e, g0_is, q, l0_is]
    | two l m o e o2 e2 => simp [fLc2, lc2L, Ln.d, Sr.d, E1_breakers_of, E2_breakers_of, Res.noex, bsP, nmsL, nmsG, brD, e, e2, g0_is, g1_is, q, l0_is]
  | two a b _ _ q _ q2 =>
    cases hs with
    | one l o e => simp [fLc2, lc2L, Ln.d, Sr.d, E1_breakers_of, E2_breakers_of, Res.noex, bsP, nmsL, nmsG, brD, e, g0_is, q, q2, l0_is, l1_is]
    | two l m o e o2 e2 => simp [fLc2, lc2L, Ln.d, Sr.d, E1_breakers_of, E2_breakers_of, Res.noex, bsP, nmsL, nmsG, brD, e, e2, g0_is, g1_is, q, q2, l0_is, l1_is]
def Fnn (n : Net) (gr : List (Str × List Dat)) (r : List Dat) (a8 a9 : Slt) : Lcs := Fn (.fz (Dn n gr r)) (.fz (busD n.nb)) (.fz (.tuple (n.ls.map Ln.d))) (.fz (.tuple (n.ss.map Sr.d))) (.fz (.tuple (gr.map row))) (.fz (.tuple r)) (.fz (.list ((bsP n.ls.length n.ss.length).map brD))) (.fz (.list ((busL n.nb ++ nmsL n.ls.length).map PyData.str))) a8 a9
theorem base_head {n : Net} (h : NetOk n) {gr : List (Str × List Dat)} (hg : GrOk gr) (r : List Dat) (s : Sto) : F_check_net (Fn (.fz (Dn n gr r)) .un .un .un .un .un .un .un .un .un) s = sSeq Cn3 Cn4 (Fnn n gr r .un .un) s := by
  have l0 := base_lists h hg r s
  have hl := lns_names h.ls
  have b0 := base_brks h gr r s
  have bl := bus_len h.nb
  have hnb := h.nb
  have c0 : Cn0 (Fn (.fz (Dn n gr r)) .un .un .un .un .un .un .un .un .un) s = .nx (Fn (.fz (Dn n gr r)) .un .un .un .un .un .un .un .un .un) s := by
    unfold Cn0 Fn
    simp [l0]
  have c1 : Cn1 (Fn (.fz (Dn n gr r)) .un .un .un .un .un .un .un .un .un) s = .nx (Fn (.fz (Dn n gr r)) (.fz (busD n.nb)) (.fz (.tuple (n.ls.map Ln.d))) (.fz (.tuple (n.ss.map Sr.d))) (.fz (.tuple (gr.map row))) (.fz (.tuple r)) .un .un .un .un) s := by
    unfold Cn1 Fn Dn D5 busD
    simp
  have c2 : Cn2 (Fn (.fz (Dn n gr r)) (.fz (busD n.nb)) (.fz (.tuple (n.ls.map Ln.d))) (.fz (.tuple (n.ss.map Sr.d))) (.fz (.tuple (gr.map row))) (.fz (.tuple r)) .un .un .un .un) s = .nx (Fnn n gr r .un .un) s := by
    have lc := fun (e : Lcs) (hn : 10 < e.length) => lc_map Ln.d (fun l => .str l.nm) 10 E1_check_net s (e := e) hn (fun b e h => by unfold E1_check_net; simp [h, Ln.d]) n.ls
    have y1 : n.ls.length < 16777216 := by omega
    have y2 : (busL n.nb).length + n.ls.length ≤ 16777216 := by omega
    have nm : n.ls.map (fun l => PyData.str l.nm) = (nmsL n.ls.length).map PyData.str := by rw [← hl.1, List.map_map]; rfl
    rw [nm] at lc
    have y3 : (busL n.nb).length + (nmsL n.ls.length).length ≤ 16777216 := by rw [← hl.1, List.length_map]; exact y2
    unfold Cn2 Fnn Fn busD
    simp [b0, lc, y1, y3]
  rw [Cnis, sq c0, sq c1, sq c2]
theorem gds_tail {nb nl ns : Nat} (hb : nb = 1 ∨ nb = 2 ∨ nb = 3) (h1 : nl = 0 ∨ nl = 1 ∨ nl = 2) (h2 : ns = 1 ∨ ns = 2) {ls : List Ln} (hl : ls.map Ln.nm = nmsL nl) (a0 a1 a2 a3 a4 a5 : Slt) (s : Sto) (tl : List Dat) : ∀ (gs : List Gd) (a8 a9 : Slt), (∀ g ∈ gs, GdOk nb nl ns ls g) →
    ∃ b8 b9, forL (gSet 8) B4_check_net (gs.map Gd.d ++ tl) (Fn a0 a1 a2 a3 a4 a5 (.fz (.list ((bsP nl ns).map brD))) (.fz (.list ((busL nb ++ nmsL nl).map PyData.str))) a8 a9) s =
      forL (gSet 8) B4_check_net tl (Fn a0 a1 a2 a3 a4 a5 (.fz (.list ((bsP nl ns).map brD))) (.fz (.list ((busL nb ++ nmsL nl).map PyData.str))) b8 b9) s
  | [], a8, a9, _ => ⟨a8, a9, by simp⟩
  | g :: gs, a8, a9, h => by
    obtain ⟨b8, b9, q⟩ := gds_tail hb h1 h2 hl a0 a1 a2 a3 a4 a5 s tl gs (.fz g.d) (.fz (.tuple (g.op.map brD))) (fun x hx => h x (List.mem_cons_of_mem _ hx))
    have st := gd_step hb h1 h2 hl (h g (by simp)) a0 a1 a2 a3 a4 a5 a9 s
    exact ⟨b8, b9, by rw [List.map_cons, List.cons_append, forL_cons rfl st]; exact q⟩
theorem net_guard_bad {n : Net} (h : NetOk n) (gs : List Gd) (hgs : ∀ g ∈ gs, GdOk n.nb n.ls.length n.ss.length n.ls g) (x : Str × List Dat) (hg : GrOk (gs.map gdR ++ [x])) (r : List Dat) (s : Sto)
    (hx : ∀ a0 a1 a2 a3 a4 a5 a9, Rf (B4_check_net (Fn a0 a1 a2 a3 a4 a5 (.fz (.list ((bsP n.ls.length n.ss.length).map brD))) (.fz (.list ((busL n.nb ++ nmsL n.ls.length).map PyData.str))) (.fz (row x)) a9) s) s) :
    Rs (g_check_net [Dn n (gs.map gdR ++ [x]) r] s) s := by
  refine runF_bad rfl ?_
  show Rf (F_check_net (Fn (.fz (Dn n (gs.map gdR ++ [x]) r)) .un .un .un .un .un .un .un .un .un) s) s
  rw [base_head h hg r s]
  refine sqR ?_
  have e0 : (gs.map gdR ++ [x]).map row = gs.map Gd.d ++ [row x] := by
    rw [List.map_append, List.map_map]
    rfl
  obtain ⟨b8, b9, e⟩ := gds_tail h.nb (lns_names h.ls).2 (srs_names h.ss).2 (lns_names h.ls).1 (.fz (Dn n (gs.map gdR ++ [x]) r)) (.fz (busD n.nb)) (.fz (.tuple (n.ls.map Ln.d))) (.fz (.tuple (n.ss.map Sr.d))) (.fz (.tuple ((gs.map gdR ++ [x]).map row))) (.fz (.tuple r)) s [row x] gs .un .un hgs
  show Rf (forL (gSet 8) B4_check_net ((gs.map gdR ++ [x]).map row) (Fnn n (gs.map gdR ++ [x]) r .un .un) s) s
  unfold Fnn
  conv in (List.map row (List.map gdR gs ++ [x])) => rw [e0]
  rw [e]
  exact forL_bad rfl (hx _ _ _ _ _ _ _)
theorem net_rules_bad {n : Net} (h : NetOk n) (gs : List Gd) (hgs : ∀ g ∈ gs, GdOk n.nb n.ls.length n.ss.length n.ls g) (hg : GrOk (gs.map gdR)) (r : List Dat) (s : Sto) (hr : g_is_rules [.tuple r] s = .ok (.bool false) s) :
    Rs (g_check_net [Dn n (gs.map gdR) r] s) s := by
  refine runF_bad rfl ?_
  show Rf (F_check_net (Fn (.fz (Dn n (gs.map gdR) r)) .un .un .un .un .un .un .un .un .un) s) s
  rw [base_head h hg r s]
  have e0 : (gs.map gdR).map row = gs.map Gd.d ++ [] := by
    rw [List.map_map, List.append_nil]
    rfl
  obtain ⟨b8, b9, e⟩ := gds_tail h.nb (lns_names h.ls).2 (srs_names h.ss).2 (lns_names h.ls).1 (.fz (Dn n (gs.map gdR) r)) (.fz (busD n.nb)) (.fz (.tuple (n.ls.map Ln.d))) (.fz (.tuple (n.ss.map Sr.d))) (.fz (.tuple ((gs.map gdR).map row))) (.fz (.tuple r)) s [] gs .un .un hgs
  rw [← e0] at e
  refine sqN (e1 := Fnn n (gs.map gdR) r b8 b9) (s1 := s) e ?_
  refine drop_chk (a := .none) (b := .str "rules") ?_
  unfold Fnn Fn
  simp [hr, bx]
end LW
namespace LW
open PySem DL L2
section
variable {B Pt : Dat} {a0 a1 a2 a3 a4 a5 a9 : Slt} {nm : Str} {t dl ops : Dat} {s : Sto}
def Gx (a0 a1 a2 a3 a4 a5 a9 : Slt) (B Pt : Dat) (nm : Str) (t dl ops : Dat) : Lcs := Fn a0 a1 a2 a3 a4 a5 (.fz B) (.fz Pt) (.fz (row (nm, [t, dl, ops]))) a9
theorem gb_told (h : g_is_told [t, B, Pt] s = .ok (.bool false) s) : Rf (B4_check_net (Gx a0 a1 a2 a3 a4 a5 a9 B Pt nm t dl ops) s) s := by
  rw [Cgis]
  show Rf (sSeq Cg0 _ _ s) s
  refine sqR (drop_chk (a := .str nm) (b := .str "told") ?_)
  unfold Gx Fn row
  simp [h, bx]
theorem gs_told (h : g_is_told [t, B, Pt] s = .ok (.bool true) s) : Cg0 (Gx a0 a1 a2 a3 a4 a5 a9 B Pt nm t dl ops) s = .nx (Gx a0 a1 a2 a3 a4 a5 a9 B Pt nm t dl ops) s := by
  unfold Cg0 Gx Fn row
  simp [h]
theorem gb_delay (h : g_is_told [t, B, Pt] s = .ok (.bool true) s) (h2 : g_is_whole [dl, .int 0, .int 20] s = .ok (.bool false) s) : Rf (B4_check_net (Gx a0 a1 a2 a3 a4 a5 a9 B Pt nm t dl ops) s) s := by
  rw [Cgis]
  show Rf (sSeq Cg0 _ _ s) s
  refine sqN (gs_told h) (sqR (drop_chk (a := .str nm) (b := .str "delay") ?_))
  unfold Gx Fn row
  simp [h2, bx]
theorem gs_delay (h2 : g_is_whole [dl, .int 0, .int 20] s = .ok (.bool true) s) : Cg1 (Gx a0 a1 a2 a3 a4 a5 a9 B Pt nm t dl ops) s = .nx (Gx a0 a1 a2 a3 a4 a5 a9 B Pt nm t dl ops) s := by
  unfold Cg1 Gx Fn row
  simp [h2]
theorem gs_ops : Cg2 (Gx a0 a1 a2 a3 a4 a5 a9 B Pt nm t dl ops) s = .nx (Gx a0 a1 a2 a3 a4 a5 (.fz ops) B Pt nm t dl ops) s := by
  unfold Cg2 Gx Fn row
  simp
theorem gb_opens (h : g_is_told [t, B, Pt] s = .ok (.bool true) s) (h2 : g_is_whole [dl, .int 0, .int 20] s = .ok (.bool true) s) (h3 : ops = .tuple [] ∨ ∃ ds, ops = .list ds) : Rf (B4_check_net (Gx a0 a1 a2 a3 a4 a5 a9 B Pt nm t dl ops) s) s := by
  have t1 : ∀ ds, tyName (.tuple ds) = some "tuple" := fun _ => rfl
  have t2 : isiTab "tuple" "tuple" = true := by decide
  have t3 : ∀ ds, tyName (.list ds) = some "list" := fun _ => rfl
  have t4 : isiTab "tuple" "list" = false := by decide
  rw [Cgis]
  show Rf (sSeq Cg0 _ _ s) s
  refine sqN (gs_told h) (sqN (gs_delay h2) (sqN gs_ops (sqR (drop_chk (a := .str nm) (b := .str "opens") ?_))))
  unfold Gx Fn row
  rcases h3 with rfl | ⟨ds, rfl⟩
  · simp [bx, t1, t2]
  · simp [bx, t3, t4]
end
theorem lc_some {α : Type} (f : α → Dat) (G : FG) (Fe : FE) (e : Lcs) (s : Sto) (b : α → Bool) : ∀ xs : List α, (∀ a ∈ xs, ∃ e1, G (f a) e s = .ok e1 s ∧ Fe e1 s = .ok (.bool (b a)) s) → lcL G cYes Fe e (xs.map f) s = .ok ((xs.map b).map PyData.bool) s
  | [], _ => rfl
  | a :: xs, h => by
    obtain ⟨e1, h1, h2⟩ := h a (by simp)
    have h3 := lc_some f G Fe e s b xs fun c hc => h c (List.mem_cons_of_mem _ hc)
    simp [h1, h2, Res.noex, h3]
theorem bools_map : ∀ bs : List Bool, bools? (bs.map PyData.bool) = some bs
  | [] => rfl
  | b :: bs => by
    have := bools_map bs
    simp only [List.map_cons]
    unfold bools?
    first
      | (rw [this]; rfl)
      | simp [this]
def badB (nl ns : Nat) (op : List (Str × Int)) : Bool := op.all (fun b => decide (b ∈ bsC nl ns)) && (op.zip (op.drop 1)).all (fun p => cmpOk (brD p.1) (brD p.2)) && !(op.zip (op.drop 1)).all (fun p => PySem.W.dataLt (brD p.1) (brD p.2)) && decide (1 ≤ op.length) && decide (op.length ≤ 7)
theorem bad_all {nl ns : Nat} (h1 : nl = 0 ∨ nl = 1 ∨ nl = 2) (h2 : ns = 1 ∨ ns = 2) : ∀ ys ∈ subs (bsC nl ns), ys ≠ [] → badB nl ns (sortB ys ++ (sortB ys).take 1) = true := by
  have q : (subs (bsC nl ns)).all (fun ys => ys.isEmpty || badB nl ns (sortB ys ++ (sortB ys).take 1)) = true := by
    rcases h1 with rfl | rfl | rfl <;> rcases h2 with rfl | rfl <;> decide +kernel
  intro ys hy hn
  have := List.all_eq_true.mp q ys hy
  rw [Bool.or_eq_true] at this
  rcases this with h | h
  · simp at h; exact absurd h hn
  · exact h
theorem gb_order {nl ns : Nat} (h1 : nl = 0 ∨ nl = 1 ∨ nl = 2) (h2 : ns = 1 ∨ ns = 2) {a0 a1 a2 a3 a4 a5 a9 : Slt} {Pt : Dat} {nm : Str} {t dl : Dat} {s : Sto} {op : List (Str × Int)} (ht : g_is_told [t, .list ((bsP nl ns).map brD), Pt] s = .ok (.bool true) s) (hd : g_is_whole [dl, .int 0, .int 20] s = .ok (.bool true) s) (ob : badB nl ns op = true) :
    Rf (B4_check_net (Gx a0 a1 a2 a3 a4 a5 a9 (.list ((bsP nl ns).map brD)) Pt nm t dl (.tuple (op.map brD))) s) s := by
  simp only [badB, Bool.and_eq_true, decide_eq_true_eq, List.all_eq_true, Bool.not_eq_true'] at ob
  obtain ⟨⟨⟨⟨o1, o2⟩, o5⟩, o3⟩, o4⟩ := ob
  have t1 : ∀ ds, tyName (.tuple ds) = some "tuple" := fun _ => rfl
  have t2 : isiTab "tuple" "tuple" = true := by decide
  have br : ∀ b ∈ op, gIn3 (brD b) (.list ((bsP nl ns).map brD)) s = .ok (.bool true) s := fun b hb => in_brs h1 h2 (o1 b hb) s
  generalize hB : (.list ((bsP nl ns).map brD) : Dat) = Bk at *
  have z0 : 0 < op.length := by omega
  have c3 : Cg3 (Gx a0 a1 a2 a3 a4 a5 (.fz (.tuple (op.map brD))) Bk Pt nm t dl (.tuple (op.map brD))) s = .nx (Gx a0 a1 a2 a3 a4 a5 (.fz (.tuple (op.map brD))) Bk Pt nm t dl (.tuple (op.map brD))) s := by
    unfold Cg3 Gx Fn row
    simp [t1, t2, z0]
  have z1 : op.length < 16777216 := by omega
  have c4 : Cg4 (Gx a0 a1 a2 a3 a4 a5 (.fz (.tuple (op.map brD))) Bk Pt nm t dl (.tuple (op.map brD))) s = .nx (Gx a0 a1 a2 a3 a4 a5 (.fz (.tuple (op.map brD))) Bk Pt nm t dl (.tuple (op.map brD))) s := by
    obtain ⟨zs, w1, w2⟩ := lc_all brD (gSet 11) E2_check_net (Gx a0 a1 a2 a3 a4 a5 (.fz (.tuple (op.map brD))) Bk Pt nm t dl (.tuple (op.map brD))) s (fun _ _ _ => trivial) op fun b hb => by
      refine ⟨_, rfl, ?_⟩
      unfold E2_check_net Gx Fn
      simp only [fBin, fVar]
      exact br b hb
    unfold Gx Fn row at w1
    unfold Cg4 Gx Fn row
    have at1 : (op.all fun _ => true) = true := by rw [List.all_eq_true]; exact fun _ _ => rfl
    simp [z1, w1, w2, at1]
  have cd : cutD (op.map brD) (some 1) none = (op.drop 1).map brD := by
    have := cut_drop (xs := op.map brD) (j := 1) (by simpa using o3)
    rw [← List.map_drop] at this
    exact this
  have pz : pairs (op.map brD) ((op.drop 1).map brD) = (op.zip (op.drop 1)).map fun p => .tuple [brD p.1, brD p.2] := by
    unfold pairs
    rw [List.zip_map, List.map_map]
    rfl
  have z2 : (op.zip (op.drop 1)).length < 16777216 := by
    rw [List.length_zip]
    omega
  rw [Cgis]
  show Rf (sSeq Cg0 _ _ s) s
  refine sqN (gs_told ht) (sqN (gs_delay hd) (sqN gs_ops (sqN c3 (sqN c4 (drop_chk (a := .str nm) (b := .str "opens") ?_)))))
  have w1 := lc_some (fun p : (Str × Int) × (Str × Int) => PyData.tuple [brD p.1, brD p.2]) (gTupT 2 (gsCons (gSet 11) (gsCons (gSet 12) gsNil))) E3_check_net (Gx a0 a1 a2 a3 a4 a5 (.fz (.tuple (op.map brD))) Bk Pt nm t dl (.tuple (op.map brD))) s (fun p => PySem.W.dataLt (brD p.1) (brD p.2)) (op.zip (op.drop 1)) fun p hp => by
    have u1 := o2 p hp
    refine ⟨_, rfl, ?_⟩
    unfold E3_check_net Gx Fn
    have : gLt2 (brD p.1) (brD p.2) s = .ok (.bool (PySem.W.dataLt (brD p.1) (brD p.2))) s := by
      show (if cmpOk (brD p.1) (brD p.2) then Res.ok (PyData.bool (PySem.W.dataLt (brD p.1) (brD p.2))) s else Res.bad) = _
      rw [u1]; rfl
    simp only [fBin, fVar]
    exact this
  have w2 := bools_map ((op.zip (op.drop 1)).map fun p => PySem.W.dataLt (brD p.1) (brD p.2))
  have w3 : ((op.zip (op.drop 1)).map fun p => PySem.W.dataLt (brD p.1) (brD p.2)).all id = false := by
    rw [List.all_map]
    exact o5
  unfold Gx Fn row at w1
  unfold Gx Fn row
  generalize hr : op.zip (op.drop 1) = r at *
  generalize hq : op.drop 1 = q at *
  generalize (List.map (fun p => PySem.W.dataLt (brD p.1) (brD p.2)) r) = bs at *
  simp [cd, pz, z2, w1, w2, w3, bx]
end LW
namespace LW
open PySem DL L2
theorem no_brs {nl ns : Nat} (h1 : nl = 0 ∨ nl = 1 ∨ nl = 2) (h2 : ns = 1 ∨ ns = 2) (s : Sto) : gIn3 (brD ("zz", 0)) (.list ((bsP nl ns).map brD)) s = .ok (.bool false) s := by
  have q : isIn (brD ("zz", 0)) (.list ((bsP nl ns).map brD)) = some false := by
    rcases h1 with rfl | rfl | rfl <;> rcases h2 with rfl | rfl <;> decide +kernel
  exact in3_list q s
theorem no_parts {nb nl : Nat} (hb : nb = 1 ∨ nb = 2 ∨ nb = 3) (h1 : nl = 0 ∨ nl = 1 ∨ nl = 2) (s : Sto) : gIn3 (.str "zz") (.list ((busL nb ++ nmsL nl).map PyData.str)) s = .ok (.bool false) s := by
  have q : isIn (.str "zz") (.list ((busL nb ++ nmsL nl).map PyData.str)) = some false := by
    rcases hb with rfl | rfl | rfl <;> rcases h1 with rfl | rfl | rfl <;> decide +kernel
  exact in3_list q s
theorem told_bad {nb nl ns : Nat} (hb : nb = 1 ∨ nb = 2 ∨ nb = 3) (h1 : nl = 0 ∨ nl = 1 ∨ nl = 2) (h2 : ns = 1 ∨ ns = 2) {b : Str × Int} (h : b ∈ bsC nl ns) (s : Sto) (t : Dat)
    (ht : t = .tuple [.str "over", brD b, frD (0, 1), .bool true] ∨ t = .tuple [.str "near", brD b] ∨ t = .tuple [.str "reach", brD b, frD (2, 4)] ∨ t = .tuple [.str "behind", brD ("zz", 0)] ∨ t = .tuple [.str "difference", .str "zz", frD (1, 2)]) :
    g_is_told [t, .list ((bsP nl ns).map brD), .list ((busL nb ++ nmsL nl).map PyData.str)] s = .ok (.bool false) s := by
  have s1 : (("over" : Str) == "over") = true := by decide
  have s2 : (("reach" : Str) == "over") = false := by decide
  have s3 : (("reach" : Str) == "reach") = true := by decide
  have s4 : (("difference" : Str) == "over") = false := by decide
  have s5 : (("difference" : Str) == "reach") = false := by decide
  have s6 : (("difference" : Str) == "difference") = true := by decide
  have s7 : (("behind" : Str) == "over") = false := by decide
  have s8 : (("behind" : Str) == "reach") = false := by decide
  have s9 : (("behind" : Str) == "difference") = false := by decide
  have s0 : (("behind" : Str) == "behind") = true := by decide
  have n1 : (("near" : Str) == "over") = false := by decide
  have n2 : (("near" : Str) == "reach") = false := by decide
  have n3 : (("near" : Str) == "difference") = false := by decide
  have n4 : (("near" : Str) == "behind") = false := by decide
  have o1 : PyData.strOk "over" = true := by decide +kernel
  have o2 : PyData.strOk "reach" = true := by decide +kernel
  have o3 : PyData.strOk "difference" = true := by decide +kernel
  have o4 : PyData.strOk "behind" = true := by decide +kernel
  have o5 : PyData.strOk "near" = true := by decide +kernel
  have t1 : ∀ ds, tyName (.tuple ds) = some "tuple" := fun _ => rfl
  have t2 : isiTab "tuple" "tuple" = true := by decide
  have t3 : ∀ z, tyName (.str z) = some "str" := fun _ => rfl
  have t4 : isiTab "str" "str" = true := by decide
  have q1 := in_brs h1 h2 h s
  have q2 := no_brs h1 h2 s
  have q3 := no_parts hb h1 s
  have f1 : g_is_above [frD (0, 1)] s = .ok (.bool false) s := by kernel_rfl
  have f2 : g_is_above [frD (2, 4)] s = .ok (.bool false) s := by kernel_rfl
  rcases ht with rfl | rfl | rfl | rfl | rfl
  · unfold g_is_told F_is_told
    simp [-gIn3, q1, f1, s1, o1, t1, t2, t3, t4]
  · unfold g_is_told F_is_told
    simp [-gIn3, n1, n2, n3, n4, o1, o2, o3, o4, o5, t1, t2, t3, t4]
  · unfold g_is_told F_is_told
    simp [-gIn3, q1, f2, s2, s3, o1, o2, t1, t2, t3, t4]
  · unfold g_is_told F_is_told
    simp [-gIn3, q2, s7, s8, s9, s0, o1, o2, o3, o4, t1, t2, t3, t4]
  · unfold g_is_told F_is_told
    simp [-gIn3, -List.map_append, q3, s4, s5, s6, o1, o2, o3, t1, t2, t3, t4]
theorem rules_bad {er : Int × Int} (h : er ∈ ([(0, 1), (1, 10), (1, 4)] : List (Int × Int))) {least most ticks : Int} (h1 : 1 ≤ least) (h2 : least ≤ most) (h3 : most ≤ 3) (s : Sto) (r : List Dat)
    (hr : r = [frD er, .int least, .int (least - 1), .int ticks] ∨ r = [frD er, .int 0, .int most, .int ticks] ∨ r = [frD er, .int least, .int 7, .int ticks] ∨ r = [frD (1, 1), .int least, .int most, .int ticks] ∨ r = [frD er, .int least, .int most, .int 41]) :
    g_is_rules [.tuple r] s = .ok (.bool false) s := by
  have lm : (least = 1 ∧ most = 1) ∨ (least = 1 ∧ most = 2) ∨ (least = 1 ∧ most = 3) ∨ (least = 2 ∧ most = 2) ∨ (least = 2 ∧ most = 3) ∨ (least = 3 ∧ most = 3) := by omega
  simp only [List.mem_cons, List.not_mem_nil, or_false] at h
  rcases hr with rfl | rfl | rfl | rfl | rfl
  · rcases h with rfl | rfl | rfl <;> rcases lm with ⟨rfl, rfl⟩ | ⟨rfl, rfl⟩ | ⟨rfl, rfl⟩ | ⟨rfl, rfl⟩ | ⟨rfl, rfl⟩ | ⟨rfl, rfl⟩ <;> kernel_rfl
  · rcases h with rfl | rfl | rfl <;> rcases lm with ⟨rfl, rfl⟩ | ⟨rfl, rfl⟩ | ⟨rfl, rfl⟩ | ⟨rfl, rfl⟩ | ⟨rfl, rfl⟩ | ⟨rfl, rfl⟩ <;> kernel_rfl
  · rcases h with rfl | rfl | rfl <;> kernel_rfl
  · kernel_rfl
  · rcases h with rfl | rfl | rfl <;> rcases lm with ⟨rfl, rfl⟩ | ⟨rfl, rfl⟩ | ⟨rfl, rfl⟩ | ⟨rfl, rfl⟩ | ⟨rfl, rfl⟩ | ⟨rfl, rfl⟩ <;> kernel_rfl
def restG (n : Net) (g : Gd) : List Gd := n.gs.filter fun x => decide (x.nm ≠ g.nm)
theorem rest_ok {n : Net} (h : NetOk n) {g : Gd} (hg : g ∈ n.gs) (x : List Dat) (hx : x.length ≤ 100) : GrOk ((restG n g).map gdR ++ [(g.nm, x)]) ∧ ∀ y ∈ restG n g, GdOk n.nb n.ls.length n.ss.length n.ls y := by
  have sub : ∀ y ∈ restG n g, y ∈ n.gs := fun y hy => (List.mem_filter.mp hy).1
  have l1 := h.gs.le
  refine ⟨⟨fun p hp => ?_, fun p hp => ?_, ?_, ?_⟩, fun y hy => (h.gs.each y (sub y hy)).1⟩
  · rcases List.mem_append.mp hp with q | q
    · obtain ⟨y, hy, rfl⟩ := List.mem_map.mp q
      exact (h.gs.each y (sub y hy)).2
    · rw [List.mem_singleton.mp q]
      exact (h.gs.each g hg).2
  · rcases List.mem_append.mp hp with q | q
    · obtain ⟨y, hy, rfl⟩ := List.mem_map.mp q
      simp [gdR]
    · rw [List.mem_singleton.mp q]
      exact hx
  · rw [List.map_append, List.map_map]
    have e : (Prod.fst ∘ gdR) = Gd.nm := rfl
    rw [e]
    refine List.nodup_append.mpr ⟨List.Nodup.sublist (List.Sublist.map _ List.filter_sublist) h.gs.nd, by simp, fun a ha b hb q => ?_⟩
    obtain ⟨y, hy, rfl⟩ := List.mem_map.mp ha
    have z := (List.mem_filter.mp hy).2
    simp only [List.map_cons, List.map_nil, List.mem_singleton] at hb
    rw [hb] at q
    simp at z
    exact z q
  · have : (restG n g).length < n.gs.length := by
      unfold restG
      exact List.length_filter_lt_length_iff_exists.mpr ⟨g, hg, by simp⟩
    rw [List.length_append, List.length_map]
    simp
    omega
def opD (g : Gd) : Dat := .tuple (g.op.map brD)
def wrG (g : Gd) (b : Str × Int) (k : Nat) : List Dat := match k with
  | 0 => [g.td.d, .int (-1), opD g]
  | 1 => [g.td.d, .int 21, opD g]
  | 2 => [g.td.d, .int g.dl, .tuple []]
  | 3 => [g.td.d, .int g.dl, .tuple ((g.op ++ g.op.take 1).map brD)]
  | 4 => [.tuple [.str "over", brD b, frD (0, 1), .bool true], .int 1, opD g]
  | 5 => [.tuple [.str "near", brD b], .int 1, opD g]
  | 6 => [.tuple [.str "reach", brD b, frD (2, 4)], .int 1, opD g]
  | 7 => [.tuple [.str "behind", brD ("zz", 0)], .int 1, opD g]
  | 8 => [.tuple [.str "difference", .str "zz", frD (1, 2)], .int 1, opD g]
  | _ => [g.td.d, .int 1, .list [brD b]]
theorem wrG_len (g : Gd) (b : Str × Int) (k : Nat) : (wrG g b k).length ≤ 100 := by
  unfold wrG
  split <;> simp
theorem guard_bad {n : Net} (h : NetOk n) {g : Gd} (hg : g ∈ n.gs) {b : Str × Int} (hb : b ∈ bsC n.ls.length n.ss.length) (k : Nat) (r : List Dat) (s : Sto) : Rs (g_check_net [Dn n ((restG n g).map gdR ++ [(g.nm, wrG g b k)]) r] s) s := by
  obtain ⟨r1, r2⟩ := rest_ok h hg (wrG g b k) (wrG_len g b k)
  refine net_guard_bad h (restG n g) r2 (g.nm, wrG g b k) r1 r s fun a0 a1 a2 a3 a4 a5 a9 => ?_
  have l1 := (lns_names h.ls)
  have l2 := (srs_names h.ss).2
  obtain ⟨td, d0, d1, ys, hy, hn, ho⟩ := (h.gs.each g hg).1
  have q1 := told_ok h.nb l1.2 l2 l1.1 td s
  have q2 := whole_ok g.dl 0 20 s d0 (by omega)
  have tb := fun t ht => told_bad h.nb l1.2 l2 hb s t ht
  have w1 : g_is_whole [.int (-1), .int 0, .int 20] s = .ok (.bool false) s := by kernel_rfl
  have w2 : g_is_whole [.int 21, .int 0, .int 20] s = .ok (.bool false) s := by kernel_rfl
  have w3 : g_is_whole [.int 1, .int 0, .int 20] s = .ok (.bool true) s := by kernel_rfl
  unfold wrG
  split
  · exact gb_delay q1 w1
  · exact gb_delay q1 w2
  · exact gb_opens q1 q2 (.inl rfl)
  · refine gb_order l1.2 l2 q1 q2 ?_
    rw [ho]
    exact bad_all l1.2 l2 ys hy hn
  · exact gb_told (tb _ (.inl rfl))
  · exact gb_told (tb _ (.inr (.inl rfl)))
  · exact gb_told (tb _ (.inr (.inr (.inl rfl))))
  · exact gb_told (tb _ (.inr (.inr (.inr (.inl rfl)))))
  · exact gb_told (tb _ (.inr (.inr (.inr (.inr rfl)))))
  · exact gb_opens q1 w3 (.inr ⟨_, rfl⟩)
end LW
namespace LW
open PySem DL L2
section
variable {n : Net} (h : NetOk n) {gs : List Gd} (hg : GrOk (gs.map gdR)) (r : List Dat) (s : Sto)
theorem rows_gs (gs : List Gd) : (gs.map gdR).map row = gs.map Gd.d := by
  rw [List.map_map]
  rfl
include h hg
theorem gs_names : ∀ x ∈ (gs.map gdR).map Prod.fst, x ∈ GN := fun x hx => by
  obtain ⟨p, hp, rfl⟩ := List.mem_map.mp hx
  exact hg.nm p hp
omit hg in
theorem sr_no : Rs (g_check_net [D5 ((busL n.nb).map PyData.str) (n.ls.map Ln.d) [] (gs.map Gd.d) r] s) s := by
  have bl := bus_len h.nb
  have l1 := (lns_names h.ls).2
  have hnb := h.nb
  refine net_bad1 (runF_bad rfl ?_)
  exact many_bad2 _ _ _ _ _ _ (by simp; omega) (by simp; omega) (by simp; omega) (.inl rfl)
theorem sr_twice : Rs (g_check_net [D5 ((busL n.nb).map PyData.str) (n.ls.map Ln.d) (n.ss.map Sr.d ++ n.ss.map Sr.d) (gs.map Gd.d) r] s) s := by
  have bl := bus_len h.nb
  have l1 := (lns_names h.ls).2
  have hnb := h.nb
  have l4 := hg.le
  simp only [List.length_map] at l4
  rcases (srs_names h.ss).2 with e | e
  · obtain ⟨x, hx⟩ := List.length_eq_one_iff.mp e
    obtain ⟨q1, q2⟩ := names_X h (gn := []) (by simp) (by simp)
    rw [hx] at q1 q2 ⊢
    refine net_bad1 (lists_rows_bad (busL n.nb) _ _ _ r s (by omega) (by omega) (by simp; omega) (by simp) (by simp) (by simpa using l4) (rowsX n.nb n.ls [x] []) (srR x) (gs.map Gd.d) ?_ (fun q hq => ⟨nmd_nm (q2 _ ?_), rowsX_len (by simp) q hq⟩) ?_ ?_ (.inr ⟨nmd_nm (q2 _ ?_), ?_⟩))
    · rw [← rowsX_map]
      simp only [List.map_cons, List.map_nil, List.append_nil, List.append_assoc, List.cons_append, List.nil_append]
      rfl
    · have := List.mem_map_of_mem (f := Prod.fst) hq
      rw [rowsX_fst] at this
      simpa using this
    · rw [rowsX_fst]
      simpa using q1
    · unfold rowsX
      simp
      omega
    · show x.nm ∈ _
      simp
    · rw [rowsX_fst]
      show x.nm ∈ _
      simp
  · refine net_bad1 (runF_bad rfl ?_)
    exact many_bad2 _ _ _ _ _ _ (by simp; omega) (by simp; omega) (by simp; omega) (.inr (by simp; omega))
theorem names_Y {z : Str} (hz : z ∉ NM) : (busL n.nb ++ (n.ls.map Ln.nm ++ ([z] ++ gs.map Gd.nm))).Nodup ∧ ∀ x ∈ busL n.nb ++ (n.ls.map Ln.nm ++ ([z] ++ gs.map Gd.nm)), x = z ∨ x ∈ NM := by
  have e0 : (gs.map gdR).map Prod.fst = gs.map Gd.nm := by rw [List.map_map]; rfl
  obtain ⟨q1, q2⟩ := names_X h (gn := gs.map Gd.nm) (by rw [← e0]; exact gs_names h hg) (by rw [← e0]; exact hg.nd)
  have sub : (busL n.nb ++ (n.ls.map Ln.nm ++ gs.map Gd.nm)).Sublist (busL n.nb ++ (n.ls.map Ln.nm ++ (n.ss.map Sr.nm ++ gs.map Gd.nm))) := List.Sublist.append (List.Sublist.refl _) (List.Sublist.append (List.Sublist.refl _) (List.sublist_append_right _ _))
  have p1 : busL n.nb ++ (n.ls.map Ln.nm ++ ([z] ++ gs.map Gd.nm)) = (busL n.nb ++ n.ls.map Ln.nm) ++ z :: gs.map Gd.nm := by simp
  have nd := q1.sublist sub
  have mem : ∀ x ∈ busL n.nb ++ (n.ls.map Ln.nm ++ gs.map Gd.nm), x ∈ NM := fun x hx => q2 x (sub.subset hx)
  have p2 : busL n.nb ++ (n.ls.map Ln.nm ++ gs.map Gd.nm) = (busL n.nb ++ n.ls.map Ln.nm) ++ gs.map Gd.nm := by simp
  rw [p2] at nd mem
  rw [p1]
  refine ⟨(List.perm_middle.nodup_iff).mpr (List.nodup_cons.mpr ⟨fun hh => hz (mem z hh), nd⟩), fun x hx => ?_⟩
  rcases List.mem_cons.mp ((List.perm_middle.mem_iff).mp hx) with rfl | hh
  · exact .inl rfl
  · exact .inr (mem x hh)
theorem sr_bad (x : Dat) (hx : (x = .tuple [.str "g9", .str "zz", .int 3]) ∨ (x = .tuple [.str "g9", .str "a", .int 0])) : Rs (g_check_net [D5 ((busL n.nb).map PyData.str) (n.ls.map Ln.d) [x] (gs.map Gd.d) r] s) s := by
  have bl := bus_len h.nb
  have l1 := (lns_names h.ls).2
  have hnb := h.nb
  have l4 := hg.le
  simp only [List.length_map] at l4
  have n9 : Nmd "g9" := fun s => by kernel_rfl
  obtain ⟨q1, q2⟩ := names_Y h hg (z := "g9") (by decide +kernel)
  obtain ⟨p, hp, hn, hl⟩ : ∃ p : Str × List Dat, x = row p ∧ p.1 = "g9" ∧ p.2.length ≤ 100 := by
    rcases hx with e | e
    · exact ⟨("g9", [.str "zz", .int 3]), e, rfl, by simp⟩
    · exact ⟨("g9", [.str "a", .int 0]), e, rfl, by simp⟩
  have em : (busL n.nb).map (fun b => (.tuple [.str b] : Dat)) ++ (n.ls.map Ln.d ++ ([x] ++ gs.map Gd.d)) = ((busL n.nb).map (fun b => (b, ([] : List Dat))) ++ (n.ls.map lnR ++ ([p] ++ gs.map gdR))).map row := by
    rw [hp]
    simp only [List.map_append, List.map_map, List.map_cons, List.map_nil]
    rfl
  have ef : ((busL n.nb).map (fun b => (b, ([] : List Dat))) ++ (n.ls.map lnR ++ ([p] ++ gs.map gdR))).map Prod.fst = busL n.nb ++ (n.ls.map Ln.nm ++ ((["g9"] : List Str) ++ gs.map Gd.nm)) := by
    have d : (busL n.nb).map (Prod.fst ∘ fun b => (b, ([] : List Dat))) = busL n.nb := by
      have : (Prod.fst ∘ fun b => (b, ([] : List Dat))) = (id : Str → Str) := rfl
      rw [this, List.map_id]
    have d1 : (Prod.fst ∘ lnR) = Ln.nm := rfl
    have d2 : (Prod.fst ∘ gdR) = Gd.nm := rfl
    simp only [List.map_append, List.map_map, List.map_cons, List.map_nil, d, hn, d1, d2]
  have good : ∀ q ∈ (busL n.nb).map (fun b => (b, ([] : List Dat))) ++ (n.ls.map lnR ++ ([p] ++ gs.map gdR)), Nmd q.1 ∧ q.2.length ≤ 100 := fun q hq => by
    refine ⟨?_, ?_⟩
    · have := List.mem_map_of_mem (f := Prod.fst) hq
      rw [ef] at this
      rcases q2 _ this with e | e
      · rw [e]; exact n9
      · exact nmd_nm e
    · rcases List.mem_append.mp hq with q | q
      · obtain ⟨b, _, rfl⟩ := List.mem_map.mp q
        simp
      · rcases List.mem_append.mp q with q | q
        · obtain ⟨b, _, rfl⟩ := List.mem_map.mp q
          simp [lnR]
        · rcases List.mem_append.mp q with q | q
          · rw [List.mem_singleton.mp q]; exact hl
          · exact hg.ln _ q
  obtain ⟨ks, b7, e1⟩ := lists_rows_ok (busL n.nb) (n.ls.map Ln.d) [x] (gs.map Gd.d) r s (by omega) (by omega) (by simp; omega) (by simp) (by simp) (by simpa using l4) _ em good (by rw [ef]; exact q1) (by simp; omega)
  obtain ⟨b8, e2⟩ := lists_lines_ok h.nb n.ls (lns_each h.ls) [x] (gs.map Gd.d) r ks b7 s
  refine net_bad1 (runF_bad rfl ?_)
  show Rf (F_check_lists (G0 (.fz (D5 ((busL n.nb).map PyData.str) (n.ls.map Ln.d) [x] (gs.map Gd.d) r)) .un .un .un .un .un .un) s) s
  rw [e1, e2]
  refine lists_source_bad x (n.ls.map Ln.d) (gs.map Gd.d) r ks b7 b8 s fun d a2 a3 a4 a5 a7 a8 ks => ?_
  rcases hx with rfl | rfl
  · refine ⟨.str "g9", .str "buses", Fc d (.fz (busD n.nb)) a2 a3 a4 a5 ks a7 a8 (.fz (.tuple [.str "g9", .str "zz", .int 3])), ?_⟩
    rcases h.nb with e | e | e <;> rw [e] <;> kernel_rfl
  · refine ⟨.str "g9", .str "number", Fc d (.fz (busD n.nb)) a2 a3 a4 a5 ks a7 a8 (.fz (.tuple [.str "g9", .str "a", .int 0])), ?_⟩
    rcases h.nb with e | e | e <;> rw [e] <;> kernel_rfl
end
end LW
namespace LW
open PySem DL L2
theorem bs_no (l so g r : List Dat) (s : Sto) : Rs (g_check_net [D5 [] l so g r] s) s := net_bad1 (runF_bad rfl (many_bad1 [] l so g r s (.inl rfl)))
theorem bs_many (b l so g r : List Dat) (hb : b.length = 7) (s : Sto) : Rs (g_check_net [D5 b l so g r] s) s := net_bad1 (runF_bad rfl (many_bad1 b l so g r s (.inr (by omega))))
theorem form_six (a b c d e : Dat) (s : Sto) : Rs (g_check_net [.tuple [a, b, c, d, e, .int 0]] s) s := by
  have t1 : ∀ ds, tyName (.tuple ds) = some "tuple" := fun _ => rfl
  have t2 : isiTab "tuple" "tuple" = true := by decide
  refine net_bad1 (runF_bad rfl ?_)
  rw [Clis]
  refine sqR (drop_chk (a := .none) (b := .str "form") ?_)
  simp [t1, t2, bx]
theorem form_list (ds : List Dat) (s : Sto) : Rs (g_check_net [.list ds] s) s := by
  have t1 : ∀ ds, tyName (.list ds) = some "list" := fun _ => rfl
  have t2 : isiTab "tuple" "list" = false := by decide
  refine net_bad1 (runF_bad rfl ?_)
  rw [Clis]
  refine sqR (drop_chk (a := .none) (b := .str "form") ?_)
  simp [t1, t2, bx]
theorem form_none (s : Sto) : Rs (g_check_net [.none] s) s := by
  have t1 : tyName (.none : Dat) = some "NoneType" := rfl
  have t2 : isiTab "tuple" "NoneType" = false := by decide
  refine net_bad1 (runF_bad rfl ?_)
  rw [Clis]
  refine sqR (drop_chk (a := .none) (b := .str "form") ?_)
  simp [t1, t2, bx]
theorem form_unit (s : Sto) : Rs (g_check_net [.tuple []] s) s := by
  have t1 : ∀ ds, tyName (.tuple ds) = some "tuple" := fun _ => rfl
  have t2 : isiTab "tuple" "tuple" = true := by decide
  refine net_bad1 (runF_bad rfl ?_)
  rw [Clis]
  refine sqR (drop_chk (a := .none) (b := .str "form") ?_)
  simp [t1, t2, bx]
section
variable {n : Net} (h : NetOk n) {gs : List Gd} (hg : GrOk (gs.map gdR)) (r : List Dat) (s : Sto)
include h hg
theorem bs_twice : Rs (g_check_net [D5 ((busL n.nb ++ (["a"] : List Str)).map PyData.str) (n.ls.map Ln.d) (n.ss.map Sr.d) (gs.map Gd.d) r] s) s := by
  have bl := bus_len h.nb
  have l1 := (lns_names h.ls).2
  have l2 := (srs_names h.ss).2
  have hnb := h.nb
  have l4 := hg.le
  simp only [List.length_map] at l4
  obtain ⟨q1, q2⟩ := names_X h (gn := []) (by simp) (by simp)
  have f1 : ((busL n.nb).map (fun b => (b, ([] : List Dat)))).map Prod.fst = busL n.nb := by
    rw [List.map_map]
    have : (Prod.fst ∘ fun b => (b, ([] : List Dat))) = (id : Str → Str) := rfl
    rw [this, List.map_id]
  have ha : ("a" : Str) ∈ busL n.nb := by
    rcases h.nb with e | e | e <;> rw [e] <;> simp [busL]
  refine net_bad1 (lists_rows_bad (busL n.nb ++ (["a"] : List Str)) _ _ _ r s (by simp) (by simp; omega) (by simp; omega) (by simp; omega) (by simp; omega) (by simpa using l4) ((busL n.nb).map fun b => (b, ([] : List Dat))) ("a", []) (n.ls.map Ln.d ++ (n.ss.map Sr.d ++ gs.map Gd.d)) ?_ (fun q hq => ?_) ?_ ?_ (.inr ⟨nmd_nm (q2 _ (List.mem_append_left _ ha)), by rw [f1]; exact ha⟩))
  · rw [List.map_append, List.map_map]
    simp only [List.map_cons, List.map_nil, List.append_assoc, List.cons_append, List.nil_append]
    rfl
  · obtain ⟨b, hb, rfl⟩ := List.mem_map.mp hq
    exact ⟨nmd_nm (q2 _ (List.mem_append_left _ hb)), by simp⟩
  · rw [f1]
    exact (List.nodup_append.mp q1).1
  · simp
    omega
theorem ln_bad (x : Dat) (p : Str × List Dat) (hp : x = row p) (hl : p.2.length ≤ 100)
    (hx : g_is_name [.str p.1] s = .ok (.bool false) s ∨ (p.1 = "k" ∧ ∀ d a2 a3 a4 a5 a7 a9 ks, Rf (B4_check_lists (Fc d (.fz (busD n.nb)) a2 a3 a4 a5 ks a7 (.fz x) a9) s) s)) :
    Rs (g_check_net [D5 ((busL n.nb).map PyData.str) (n.ls.map Ln.d ++ [x]) (n.ss.map Sr.d) (gs.map Gd.d) r] s) s := by
  have bl := bus_len h.nb
  have l1 := (lns_names h.ls).2
  have l2 := (srs_names h.ss).2
  have hnb := h.nb
  have l4 := hg.le
  simp only [List.length_map] at l4
  have e0 : (gs.map gdR).map Prod.fst = gs.map Gd.nm := by rw [List.map_map]; rfl
  obtain ⟨q1, q2⟩ := names_X h (gn := gs.map Gd.nm) (by rw [← e0]; exact gs_names h hg) (by rw [← e0]; exact hg.nd)
  have d : (busL n.nb).map (Prod.fst ∘ fun b => (b, ([] : List Dat))) = busL n.nb := by
    have : (Prod.fst ∘ fun b => (b, ([] : List Dat))) = (id : Str → Str) := rfl
    rw [this, List.map_id]
  have d1 : (Prod.fst ∘ lnR) = Ln.nm := rfl
  have d2 : (Prod.fst ∘ gdR) = Gd.nm := rfl
  have d3 : (Prod.fst ∘ srR) = Sr.nm := rfl
  rcases hx with hx | ⟨hk, hx⟩
  · refine net_bad1 (lists_rows_bad (busL n.nb) _ _ _ r s (by omega) (by omega) (by simp; omega) (by simp; omega) (by simp; omega) (by simpa using l4) ((busL n.nb).map (fun b => (b, ([] : List Dat))) ++ n.ls.map lnR) p (n.ss.map Sr.d ++ gs.map Gd.d) ?_ (fun q hq => ?_) ?_ ?_ (.inl hx))
    · rw [hp]
      simp only [List.map_append, List.map_map, List.append_assoc, List.cons_append, List.nil_append]
      rfl
    · rcases List.mem_append.mp hq with z | z
      · obtain ⟨b, hb, rfl⟩ := List.mem_map.mp z
        exact ⟨nmd_nm (q2 _ (List.mem_append_left _ hb)), by simp⟩
      · obtain ⟨b, hb, rfl⟩ := List.mem_map.mp z
        exact ⟨nmd_nm (q2 _ (List.mem_append_right _ (List.mem_append_left _ (List.mem_map_of_mem hb)))), by simp [lnR]⟩
    · rw [List.map_append, List.map_map, List.map_map, d, d1]
      have : busL n.nb ++ (n.ls.map Ln.nm ++ (n.ss.map Sr.nm ++ gs.map Gd.nm)) = (busL n.nb ++ n.ls.map Ln.nm) ++ (n.ss.map Sr.nm ++ gs.map Gd.nm) := by simp
      rw [this] at q1
      exact (List.nodup_append.mp q1).1
    · simp
      omega
  · have nk : Nmd "k" := fun s => by kernel_rfl
    have kn : ("k" : Str) ∉ NM := by decide +kernel
    have em : (busL n.nb).map (fun b => (.tuple [.str b] : Dat)) ++ ((n.ls.map Ln.d ++ [x]) ++ (n.ss.map Sr.d ++ gs.map Gd.d)) = ((busL n.nb).map (fun b => (b, ([] : List Dat))) ++ ((n.ls.map lnR ++ [p]) ++ (n.ss.map srR ++ gs.map gdR))).map row := by
      rw [hp]
      simp only [List.map_append, List.map_map, List.map_cons, List.map_nil]
      rfl
    have ef : ((busL n.nb).map (fun b => (b, ([] : List Dat))) ++ ((n.ls.map lnR ++ [p]) ++ (n.ss.map srR ++ gs.map gdR))).map Prod.fst = (busL n.nb ++ n.ls.map Ln.nm) ++ ("k" : Str) :: (n.ss.map Sr.nm ++ gs.map Gd.nm) := by
      simp only [List.map_append, List.map_map, List.map_cons, List.map_nil, d, hk, d1, d2, d3, List.append_assoc, List.cons_append, List.nil_append]
    have p1 : busL n.nb ++ (n.ls.map Ln.nm ++ (n.ss.map Sr.nm ++ gs.map Gd.nm)) = (busL n.nb ++ n.ls.map Ln.nm) ++ (n.ss.map Sr.nm ++ gs.map Gd.nm) := by simp
    rw [p1] at q1 q2
    have nd : ((busL n.nb ++ n.ls.map Ln.nm) ++ ("k" : Str) :: (n.ss.map Sr.nm ++ gs.map Gd.nm)).Nodup := (List.perm_middle.nodup_iff).mpr (List.nodup_cons.mpr ⟨fun hh => kn (q2 _ hh), q1⟩)
    have good : ∀ q ∈ (busL n.nb).map (fun b => (b, ([] : List Dat))) ++ ((n.ls.map lnR ++ [p]) ++ (n.ss.map srR ++ gs.map gdR)), Nmd q.1 ∧ q.2.length ≤ 100 := fun q hq => by
      refine ⟨?_, ?_⟩
      · have z := List.mem_map_of_mem (f := Prod.fst) hq
        rw [ef] at z
        rcases List.mem_cons.mp ((List.perm_middle.mem_iff).mp z) with e | e
        · rw [e]; exact nk
        · exact nmd_nm (q2 _ e)
      · rcases List.mem_append.mp hq with z | z
        · obtain ⟨b, _, rfl⟩ := List.mem_map.mp z
          simp
        · rcases List.mem_append.mp z with z | z
          · rcases List.mem_append.mp z with z | z
            · obtain ⟨b, _, rfl⟩ := List.mem_map.mp z
              simp [lnR]
            · rw [List.mem_singleton.mp z]; exact hl
          · rcases List.mem_append.mp z with z | z
            · obtain ⟨b, _, rfl⟩ := List.mem_map.mp z
              simp [srR]
            · exact hg.ln _ z
    obtain ⟨ks, b7, e1⟩ := lists_rows_ok (busL n.nb) (n.ls.map Ln.d ++ [x]) (n.ss.map Sr.d) (gs.map Gd.d) r s (by omega) (by omega) (by simp; omega) (by simp; omega) (by simp; omega) (by simpa using l4) _ em good (by rw [ef]; exact nd) (by simp; omega)
    refine net_bad1 (runF_bad rfl ?_)
    show Rf (F_check_lists (G0 (.fz (D5 ((busL n.nb).map PyData.str) (n.ls.map Ln.d ++ [x]) (n.ss.map Sr.d) (gs.map Gd.d) r)) .un .un .un .un .un .un) s) s
    rw [e1]
    exact lists_line_bad h.nb n.ls (lns_each h.ls) x _ _ r ks b7 s hx
def lastB (nb : Nat) : Str := if nb = 1 then "a" else if nb = 2 then "b" else "c"
def wrL (nb : Nat) (k : Nat) : Str × List Dat := match k with
  | 0 => ("k", [.str "a", .str "a", .int 3])
  | 1 => ("k", [.str "a", .str "zz", .int 3])
  | 2 => ("k", [.str "a", .str (lastB nb), .int 1001])
  | 3 => ("ticks", [.str "a", .str (lastB nb), .int 3])
  | _ => ("nine90123", [.str "a", .str (lastB nb), .int 3])
theorem line_bad (k : Nat) : Rs (g_check_net [D5 ((busL n.nb).map PyData.str) (n.ls.map Ln.d ++ [row (wrL n.nb k)]) (n.ss.map Sr.d) (gs.map Gd.d) r] s) s := by
  refine ln_bad h hg r s (row (wrL n.nb k)) (wrL n.nb k) rfl (by unfold wrL; split <;> simp) ?_
  unfold wrL
  split
  · refine .inr ⟨rfl, fun d a2 a3 a4 a5 a7 a9 ks => ⟨.str "k", .str "buses", Fc d (.fz (busD n.nb)) a2 a3 a4 a5 ks a7 (.fz (row ("k", [.str "a", .str "a", .int 3]))) a9, ?_⟩⟩
    rcases h.nb with e | e | e <;> rw [e] <;> kernel_rfl
  · refine .inr ⟨rfl, fun d a2 a3 a4 a5 a7 a9 ks => ⟨.str "k", .str "buses", Fc d (.fz (busD n.nb)) a2 a3 a4 a5 ks a7 (.fz (row ("k", [.str "a", .str "zz", .int 3]))) a9, ?_⟩⟩
    rcases h.nb with e | e | e <;> rw [e] <;> kernel_rfl
  · refine .inr ⟨rfl, fun d a2 a3 a4 a5 a7 a9 ks => ⟨.str "k", .str (if n.nb = 1 then "buses" else "number"), Fc d (.fz (busD n.nb)) a2 a3 a4 a5 ks a7 (.fz (row ("k", [.str "a", .str (lastB n.nb), .int 1001]))) a9, ?_⟩⟩
    rcases h.nb with e | e | e <;> rw [e] <;> kernel_rfl
  · left
    kernel_rfl
  · left
    kernel_rfl
end
end LW
namespace LW
open PySem DL L2
def Wr0 : FS := (sAsg (fVar 1) (gTupT 5 (gsCons (gSet 2) (gsCons (gSet 3) (gsCons (gSet 4) (gsCons (gSet 5) (gsCons (gSet 6) gsNil)))))))
def Wr1 : FS := (sAsg (fTup (fCons (fBin gIx3 (fVar 5) (fCallD g__law_next (fCons (fVar 0) (fCons (fCall gLen2 (fCons (fVar 5) fNil)) fNil)))) (fCons (fCallD g__law_next (fCons (fVar 0) (fCons (fC (.int 24)) fNil))) fNil))) (gTupT 2 (gsCons (gSet 7) (gsCons (gSet 8) gsNil))))
def Wr2 : FS := (sAsg (fVar 7) (gTupT 4 (gsCons (gSet 9) (gsCons (gSet 10) (gsCons (gSet 11) (gsCons (gSet 12) gsNil))))))
def Wr3 : FS := (sSet 13 (fCall gTupOf2 (fCons (fLc (fIter (fVar 5)) (gSet 20) C1__law_wrong E1__law_wrong [20]) fNil)))
def Wr4 : FS := (sIf (fB (fBin gLt2 (fVar 8) (fC (.int 5)))) (sSeq (sSet 14 (fBin gIx3 (fTup (fCons (fTup (fCons (fVar 9) (fCons (fVar 10) (fCons (fUn gNeg (fC (.int 1))) (fCons (fVar 12) fNil))))) (fCons (fTup (fCons (fVar 9) (fCons (fVar 10) (fCons (fC (.int 21)) (fCons (fVar 12) fNil))))) (fCons (fTup (fCons (fVar 9) (fCons (fVar 10) (fCons (fVar 11) (fCons (fTup fNil) fNil))))) (fCons (fTup (fCons (fVar 9) (fCons (fVar 10) (fCons (fVar 11) (fCons (fBin gAdd (fVar 12) (fSl (fVar 12) fNo (fSome (fC (.int 1))))) fNil))))) (fCons (fTup (fCons (fVar 9) (fCons (fTup (fCons (fC (.str "over")) (fCons (fBin gIx3 (fVar 12) (fC (.int 0))) (fCons (fTup (fCons (fC (.int 0)) (fCons (fC (.int 1)) fNil))) (fCons (fC (.bool true)) fNil))))) (fCons (fC (.int 1)) (fCons (fVar 12) fNil))))) fNil)))))) (fVar 8)))
    (sRet (fCallD g__law_put (fCons (fVar 1) (fCons (fC (.int 3)) (fCons (fBin gAdd (fVar 13) (fTup (fCons (fVar 14) fNil))) fNil)))))) sNext)
def Wr5 : FS := (sIf (fB (fBin gLt2 (fVar 8) (fC (.int 10)))) (sSeq (sSet 15 (fBin gIx3 (fTup (fCons (fTup (fCons (fC (.str "near")) (fCons (fBin gIx3 (fVar 12) (fC (.int 0))) fNil))) (fCons (fTup (fCons (fC (.str "reach")) (fCons (fBin gIx3 (fVar 12) (fC (.int 0))) (fCons (fTup (fCons (fC (.int 2)) (fCons (fC (.int 4)) fNil))) fNil)))) (fCons (fTup (fCons (fC (.str "behind")) (fCons (fTup (fCons (fC (.str "zz")) (fCons (fC (.int 0)) fNil))) fNil))) (fCons (fTup (fCons (fC (.str "difference")) (fCons (fC (.str "zz")) (fCons (fTup (fCons (fC (.int 1)) (fCons (fC (.int 2)) fNil))) fNil)))) (fCons (fVar 10) fNil)))))) (fBin gSub (fVar 8) (fC (.int 5)))))
    (sSeq (sSet 14 (fTup (fCons (fVar 9) (fCons (fVar 15) (fCons (fC (.int 1)) (fCons (fIf (fB (fBin gLt2 (fVar 8) (fC (.int 9)))) (fVar 12) (fLst (fCons (fBin gIx3 (fVar 12) (fC (.int 0))) fNil))) fNil))))))
    (sRet (fCallD g__law_put (fCons (fVar 1) (fCons (fC (.int 3)) (fCons (fBin gAdd (fVar 13) (fTup (fCons (fVar 14) fNil))) fNil))))))) sNext)
def Wr6 : FS := (sIf (fB (fBin gLt2 (fVar 8) (fC (.int 15)))) (sSeq (sAsg (fVar 6) (gTupT 4 (gsCons (gSet 16) (gsCons (gSet 17) (gsCons (gSet 18) (gsCons (gSet 19) gsNil))))))
    (sRet (fCallD g__law_put (fCons (fVar 1) (fCons (fC (.int 4)) (fCons (fBin gIx3 (fTup (fCons (fTup (fCons (fVar 16) (fCons (fVar 17) (fCons (fBin gSub (fVar 17) (fC (.int 1))) (fCons (fVar 19) fNil))))) (fCons (fTup (fCons (fVar 16) (fCons (fC (.int 0)) (fCons (fVar 18) (fCons (fVar 19) fNil))))) (fCons (fTup (fCons (fVar 16) (fCons (fVar 17) (fCons (fC (.int 7)) (fCons (fVar 19) fNil))))) (fCons (fTup (fCons (fTup (fCons (fC (.int 1)) (fCons (fC (.int 1)) fNil))) (fCons (fVar 17) (fCons (fVar 18) (fCons (fVar 19) fNil))))) (fCons (fTup (fCons (fVar 16) (fCons (fVar 17) (fCons (fVar 18) (fCons (fC (.int 41)) fNil))))) fNil)))))) (fBin gSub (fVar 8) (fC (.int 10)))) fNil)))))) sNext)
def Wr7 : FS := (sIf (fB (fBin gLt2 (fVar 8) (fC (.int 19)))) (sRet (fCallD g__law_put (fCons (fVar 1) (fCons (fC (.int 2)) (fCons (fBin gIx3 (fTup (fCons (fTup fNil) (fCons (fBin gAdd (fVar 4) (fVar 4)) (fCons (fTup (fCons (fTup (fCons (fC (.str "g9")) (fCons (fC (.str "zz")) (fCons (fC (.int 3)) fNil)))) fNil)) (fCons (fTup (fCons (fTup (fCons (fC (.str "g9")) (fCons (fBin gIx3 (fVar 2) (fC (.int 0))) (fCons (fC (.int 0)) fNil)))) fNil)) fNil))))) (fBin gSub (fVar 8) (fC (.int 15)))) fNil))))) sNext)
def Wr8 : FS := (sIf (fB (fBin gLt2 (fVar 8) (fC (.int 22)))) (sRet (fCallD g__law_put (fCons (fVar 1) (fCons (fC (.int 0)) (fCons (fBin gIx3 (fTup (fCons (fTup fNil) (fCons (fBin gAdd (fVar 2) (fSl (fVar 2) fNo (fSome (fC (.int 1))))) (fCons (fCall gTupOf2 (fCons (fLc (fItA gRng1 (fCons (fC (.int 7)) fNil)) (gSet 21) cYes E2__law_wrong [21]) fNil)) fNil)))) (fBin gSub (fVar 8) (fC (.int 19)))) fNil))))) sNext)
def Wr9 : FS := (sRet (fBin gIx3 (fTup (fCons (fBin gAdd (fVar 1) (fTup (fCons (fC (.int 0)) fNil))) (fCons (fCall gLstOf2 (fCons (fVar 1) fNil)) fNil))) (fBin gSub (fVar 8) (fC (.int 22)))))
theorem Wris : F__law_wrong = (sSeq Wr0 (sSeq Wr1 (sSeq Wr2 (sSeq Wr3 (sSeq Wr4 (sSeq Wr5 (sSeq Wr6 (sSeq Wr7 (sSeq Wr8 Wr9))))))))) := rfl
theorem lay_map {α : Type} (f : α → Dat) : ∀ xs : List α, (∀ x ∈ xs, (f x).canLay0 = true) → PyData.canLayAll0 (xs.map f) = true
  | [], _ => rfl
  | x :: xs, h => by simp [PyData.canLayAll0, h x (by simp), lay_map f xs fun y hy => h y (List.mem_cons_of_mem _ hy)]
theorem dep_map {α : Type} (f : α → Dat) (m : Nat) : ∀ xs : List α, (∀ x ∈ xs, (f x).depth ≤ m) → PyData.depthAll (xs.map f) ≤ m
  | [], _ => by simp [PyData.depthAll]
  | x :: xs, h => by
    have := h x (by simp)
    have := dep_map f m xs fun y hy => h y (List.mem_cons_of_mem _ hy)
    simp [PyData.depthAll]
    omega
theorem op_facts {n : Net} (h : NetOk n) {g : Gd} (hg : g ∈ n.gs) : (∀ y ∈ g.op, y ∈ bsC n.ls.length n.ss.length) ∧ 1 ≤ g.op.length ∧ g.op.length ≤ 6 := by
  obtain ⟨td, d0, d1, ys, hy, hn, ho⟩ := (h.gs.each g hg).1
  have ob := op_all (lns_names h.ls).2 (srs_names h.ss).2 ys hy hn
  rw [← ho] at ob
  simp only [opB, Bool.and_eq_true, decide_eq_true_eq, List.all_eq_true] at ob
  exact ⟨ob.1.1.1, ob.1.2, ob.2⟩
theorem sh_gd {n : Net} (hn : NetOk n) {g : Gd} (hg : g ∈ n.gs) : SeqAt.shaped g.d = true ∧ g.d.canLay0 = true := by
  have hln := lns_names hn.ls
  have hls := srs_names hn.ss
  have ko : ∀ x ∈ (["over", "reach", "difference", "behind"] : List Str), PyData.strOk x = true := by decide +kernel
  have bo : ∀ b ∈ bsC n.ls.length n.ss.length, PyData.strOk b.1 = true := fun b hb => by
    have q : ∀ nl ns, (nl = 0 ∨ nl = 1 ∨ nl = 2) → (ns = 1 ∨ ns = 2) → (bsC nl ns).all (fun b => PyData.strOk b.1) = true := by
      intro nl ns h1 h2
      rcases h1 with rfl | rfl | rfl <;> rcases h2 with rfl | rfl <;> decide +kernel
    exact List.all_eq_true.mp (q _ _ hln.2 hls.2) b hb
  have k1 := ko "over" (by simp)
  have k2 := ko "reach" (by simp)
  have k3 := ko "difference" (by simp)
  have k4 := ko "behind" (by simp)
  have tdl : g.td.d.canLay0 = true := by
    have tk := (hn.gs.each g hg).1.td
    cases h : g.td with
    | over b f fw => rw [h] at tk; cases tk with | over _ _ _ hb _ => simp [Td.d, brD, frD, PyData.canLay0, PyData.canLayAll0, k1, bo b hb]
    | reach b f => rw [h] at tk; cases tk with | reach _ _ hb _ => simp [Td.d, brD, frD, PyData.canLay0, PyData.canLayAll0, k2, bo b hb]
    | behind b => rw [h] at tk; cases tk with | behind _ hb => simp [Td.d, brD, frD, PyData.canLay0, PyData.canLayAll0, k4, bo b hb]
    | diff p f =>
      rw [h] at tk
      cases tk with
      | diff _ _ hp _ =>
        have pn : p ∈ NM := by
          rcases List.mem_append.mp hp with q | q
          · exact bus_nm hn.nb q
          · rw [hln.1] at q
            have : ∀ nl, nl = 0 ∨ nl = 1 ∨ nl = 2 → ∀ x ∈ nmsL nl, x ∈ NM := by
              intro nl h; rcases h with rfl | rfl | rfl <;> decide +kernel
            exact this _ hln.2 p q
        simp [Td.d, brD, frD, PyData.canLay0, PyData.canLayAll0, k3, nm_ok p pn]
  have tdd : ∀ td : Td, td.d.depth ≤ 3 := fun td => by cases td <;> simp [Td.d, brD, frD, PyData.depth, PyData.depthAll]
  have lg : g.d.canLay0 = true := by
    obtain ⟨o1, _, _⟩ := op_facts hn hg
    have lo := lay_map brD g.op fun b hb => by simp [brD, PyData.canLay0, PyData.canLayAll0, bo b (o1 b hb)]
    simp [Gd.d, PyData.canLay0, PyData.canLayAll0, tdl, lo, nm_ok _ (List.mem_append_right _ (hn.gs.each g hg).2 : g.nm ∈ NM)]
  have dg : g.d.depth ≤ 64 := by
    have a := tdd g.td
    have b := dep_map brD 2 g.op fun b hb => by simp [brD, PyData.depth, PyData.depthAll]
    simp [Gd.d, PyData.depth, PyData.depthAll]
    omega
  exact ⟨by unfold SeqAt.shaped; rw [lg, decide_eq_true dg]; rfl, lg⟩
theorem gd_inj : ∀ {gs : List Gd}, (gs.map Gd.nm).Nodup → ∀ {x y : Gd}, x ∈ gs → y ∈ gs → x.nm = y.nm → x = y
  | [], _, _, _, h, _, _ => by cases h
  | g :: gs, nd, x, y, hx, hy, e => by
    rw [List.map_cons, List.nodup_cons] at nd
    rcases List.mem_cons.mp hx with a | a <;> rcases List.mem_cons.mp hy with b | b
    · rw [a, b]
    · exact absurd (by rw [← a, e]; exact List.mem_map_of_mem b) nd.1
    · exact absurd (by rw [← b, ← e]; exact List.mem_map_of_mem a) nd.1
    · exact gd_inj nd.2 a b e
theorem ne_gd {n : Net} (h : NetOk n) {x g : Gd} (hx : x ∈ n.gs) (hg : g ∈ n.gs) (s : Sto) : gNe x.d g.d s = .ok (.bool (decide (x.nm ≠ g.nm))) s := by
  have s1 := sh_gd h hx
  have s2 := sh_gd h hg
  unfold gNe
  rw [s1.1, s2.1]
  by_cases e : x.nm = g.nm
  · have := gd_inj h.gs.nd hx hg e
    subst this
    rw [SeqAt.eqv_refl x.d s1.2]
    simp
  · have : PyData.eqv x.d g.d = false := by
      have z : (x.nm == g.nm) = false := by simpa using e
      unfold Gd.d
      simp [PyData.eqv, PyData.eqvAll, z]
    rw [this]
    simp [e]
theorem rest_lc {n : Net} (h : NetOk n) {g : Gd} (hg : g ∈ n.gs) {e : Lcs} (h7 : e[7]? = some (.fz g.d)) (hl : 20 < e.length) (s : Sto) : ∀ gs : List Gd, (∀ x ∈ gs, x ∈ n.gs) → lcL (gSet 20) C1__law_wrong E1__law_wrong e (gs.map Gd.d) s = .ok ((gs.filter fun x => decide (x.nm ≠ g.nm)).map Gd.d) s
  | [], _ => rfl
  | x :: gs, hs => by
    have ih := rest_lc h hg h7 hl s gs fun y hy => hs y (List.mem_cons_of_mem _ hy)
    have q := ne_gd h (hs x (by simp)) hg s
    have a1 : (e.set 20 (.fz x.d))[20]? = some (.fz x.d) := List.getElem?_set_self hl
    have a2 : (e.set 20 (.fz x.d))[7]? = some (.fz g.d) := by rw [List.getElem?_set_ne (by decide)]; exact h7
    have c : C1__law_wrong (e.set 20 (.fz x.d)) s = .ok (decide (x.nm ≠ g.nm)) s := by
      unfold C1__law_wrong
      simp only [fB, fBin, fVar, a1, a2]
      simp [q]
    have d : E1__law_wrong (e.set 20 (.fz x.d)) s = .ok x.d s := by
      unfold E1__law_wrong
      simp [a1]
    rw [List.map_cons]
    unfold lcL
    have st : gSet 20 x.d e s = .ok (e.set 20 (.fz x.d)) s := by simp [hl]
    rw [st]
    simp only [Res.noex, Res.bind]
    rw [c]
    simp only [Res.noex, Res.bind]
    by_cases z : x.nm = g.nm
    · rw [List.filter_cons_of_neg (by simpa using z)]
      rw [show decide (x.nm ≠ g.nm) = false by simpa using z]
      exact ih
    · rw [List.filter_cons_of_pos (by simpa using z)]
      rw [show decide (x.nm ≠ g.nm) = true by simpa using z]
      simp only [if_true]
      rw [d]
      simp only [Res.noex, Res.bind]
      rw [ih]
      rfl
end LW
namespace LW
open PySem DL L2
def rul (n : Net) : List Dat := [frD n.er, .int n.least, .int n.most, .int n.ticks]
def Fw8 (n : Net) (g : Gd) (num : Int) (ops : List Dat) : Lcs := [.fz (cel 0), .fz n.d, .fz (busD n.nb), .fz (.tuple (n.ls.map Ln.d)), .fz (.tuple (n.ss.map Sr.d)), .fz (.tuple (n.gs.map Gd.d)), .fz (.tuple (rul n)), .fz g.d, .fz (.int num), .fz (.str g.nm), .fz g.td.d, .fz (.int g.dl), .fz (.tuple ops), .fz (.tuple ((restG n g).map Gd.d)), .un, .un, .un, .un, .un, .un, .un, .un]
section
variable (n : Net) (g : Gd) (num : Int) (ops : List Dat) (s : Sto)
theorem put0 (a b c d e x : Dat) : g__law_put [.tuple [a, b, c, d, e], .int 0, x] s = .ok (.tuple [x, b, c, d, e]) s := by kernel_rfl
theorem put1 (a b c d e x : Dat) : g__law_put [.tuple [a, b, c, d, e], .int 1, x] s = .ok (.tuple [a, x, c, d, e]) s := by kernel_rfl
theorem put2 (a b c d e x : Dat) : g__law_put [.tuple [a, b, c, d, e], .int 2, x] s = .ok (.tuple [a, b, x, d, e]) s := by kernel_rfl
theorem put3 (a b c d e x : Dat) : g__law_put [.tuple [a, b, c, d, e], .int 3, x] s = .ok (.tuple [a, b, c, x, e]) s := by kernel_rfl
theorem put4 (a b c d e x : Dat) : g__law_put [.tuple [a, b, c, d, e], .int 4, x] s = .ok (.tuple [a, b, c, d, x]) s := by kernel_rfl
theorem skip4 (h : 5 ≤ num) : Wr4 (Fw8 n g num ops) s = .nx (Fw8 n g num ops) s := by
  have z : ¬ num < 5 := by omega
  unfold Wr4 Fw8
  simp [z]
theorem skip5 (h : 10 ≤ num) : Wr5 (Fw8 n g num ops) s = .nx (Fw8 n g num ops) s := by
  have z : ¬ num < 10 := by omega
  unfold Wr5 Fw8
  simp [z]
theorem skip6 (h : 15 ≤ num) : Wr6 (Fw8 n g num ops) s = .nx (Fw8 n g num ops) s := by
  have z : ¬ num < 15 := by omega
  unfold Wr6 Fw8
  simp [z]
theorem skip7 (h : 19 ≤ num) : Wr7 (Fw8 n g num ops) s = .nx (Fw8 n g num ops) s := by
  have z : ¬ num < 19 := by omega
  unfold Wr7 Fw8
  simp [z]
theorem skip8 (h : 22 ≤ num) : Wr8 (Fw8 n g num ops) s = .nx (Fw8 n g num ops) s := by
  have z : ¬ num < 22 := by omega
  unfold Wr8 Fw8
  simp [z]
def gN (n : Net) (gr : List Dat) (r : Dat) : Dat := .tuple [busD n.nb, .tuple (n.ls.map Ln.d), .tuple (n.ss.map Sr.d), .tuple gr, r]
def WrAll : FS := sSeq Wr4 (sSeq Wr5 (sSeq Wr6 (sSeq Wr7 (sSeq Wr8 Wr9))))
theorem sqr {F K : FS} {e : Lcs} {s s1 : Sto} {d : Dat} (h : F e s = .rt d s1) : sSeq F K e s = .rt d s1 := by
  simp only [sSeq, h, Flo.seq]
def wg4 (g : Gd) (b : Dat) (ops : List Dat) (k : Nat) : List Dat := match k with
  | 0 => [g.td.d, .int (-1), .tuple ops]
  | 1 => [g.td.d, .int 21, .tuple ops]
  | 2 => [g.td.d, .int g.dl, .tuple []]
  | 3 => [g.td.d, .int g.dl, .tuple (ops ++ [b])]
  | _ => [.tuple [.str "over", b, frD (0, 1), .bool true], .int 1, .tuple ops]
theorem w4_ok (b : Dat) (os : List Dat) (hos : os.length ≤ 10) (hr : (restG n g).length ≤ 20) (k : Nat) (hk : k < 5) : WrAll (Fw8 n g k (b :: os)) s = .rt (gN n ((restG n g).map Gd.d ++ [.tuple (.str g.nm :: wg4 g b (b :: os) k)]) (.tuple (rul n))) s := by
  have z1 : os.length + 1 + 1 ≤ 16777216 := by omega
  have z2 : (restG n g).length + 1 ≤ 16777216 := by omega
  have z3 : os.length + 1 < 16777216 := by omega
  have z4 : (restG n g).length < 16777216 := by omega
  have cc : cutD (b :: os) none (some 1) = [b] := by
    have := cut_take (xs := b :: os) (j := 1) (by simp)
    simpa using this
  unfold WrAll
  refine sqr ?_
  have e5 : k = 0 ∨ k = 1 ∨ k = 2 ∨ k = 3 ∨ k = 4 := by omega
  rcases e5 with rfl | rfl | rfl | rfl | rfl
  · unfold Wr4 Fw8 Net.d gN wg4 rul
    simp [put3, z1, z2, z3, z4, cc, frD]
  · unfold Wr4 Fw8 Net.d gN wg4 rul
    simp [put3, z1, z2, z3, z4, cc, frD]
  · unfold Wr4 Fw8 Net.d gN wg4 rul
    simp [put3, z1, z2, z3, z4, cc, frD]
  · unfold Wr4 Fw8 Net.d gN wg4 rul
    simp [put3, z1, z2, z3, z4, cc, frD]
  · unfold Wr4 Fw8 Net.d gN wg4 rul
    simp [put3, z1, z2, z3, z4, cc, frD]
end
end LW
namespace LW
open PySem DL L2
section
variable (n : Net) (g : Gd) (ops : List Dat) (s : Sto)
def wg5 (g : Gd) (b : Dat) (ops : List Dat) (k : Nat) : List Dat := match k with
  | 5 => [.tuple [.str "near", b], .int 1, .tuple ops]
  | 6 => [.tuple [.str "reach", b, frD (2, 4)], .int 1, .tuple ops]
  | 7 => [.tuple [.str "behind", brD ("zz", 0)], .int 1, .tuple ops]
  | 8 => [.tuple [.str "difference", .str "zz", frD (1, 2)], .int 1, .tuple ops]
  | _ => [g.td.d, .int 1, .list [b]]
theorem w5_ok (b : Dat) (os : List Dat) (hr : (restG n g).length ≤ 20) (k : Nat) (hk : 5 ≤ k) (hk2 : k < 10) : WrAll (Fw8 n g k (b :: os)) s = .rt (gN n ((restG n g).map Gd.d ++ [.tuple (.str g.nm :: wg5 g b (b :: os) k)]) (.tuple (rul n))) s := by
  have z2 : (restG n g).length + 1 ≤ 16777216 := by omega
  have z4 : (restG n g).length < 16777216 := by omega
  unfold WrAll
  rw [sq (skip4 n g k (b :: os) s (by omega))]
  refine sqr ?_
  have e5 : k = 5 ∨ k = 6 ∨ k = 7 ∨ k = 8 ∨ k = 9 := by omega
  rcases e5 with rfl | rfl | rfl | rfl | rfl
  · unfold Wr5 Fw8 Net.d gN wg5 rul
    simp [put3, z2, z4, frD, brD]
  · unfold Wr5 Fw8 Net.d gN wg5 rul
    simp [put3, z2, z4, frD, brD]
  · unfold Wr5 Fw8 Net.d gN wg5 rul
    simp [put3, z2, z4, frD, brD]
  · unfold Wr5 Fw8 Net.d gN wg5 rul
    simp [put3, z2, z4, frD, brD]
  · unfold Wr5 Fw8 Net.d gN wg5 rul
    simp [put3, z2, z4, frD, brD]
def wr6 (n : Net) (k : Nat) : List Dat := match k with
  | 10 => [frD n.er, .int n.least, .int (n.least - 1), .int n.ticks]
  | 11 => [frD n.er, .int 0, .int n.most, .int n.ticks]
  | 12 => [frD n.er, .int n.least, .int 7, .int n.ticks]
  | 13 => [frD (1, 1), .int n.least, .int n.most, .int n.ticks]
  | _ => [frD n.er, .int n.least, .int n.most, .int 41]
theorem w6_ok (hl : n.least.natAbs ≤ 100) (k : Nat) (hk : 10 ≤ k) (hk2 : k < 15) : WrAll (Fw8 n g k ops) s = .rt (gN n (n.gs.map Gd.d) (.tuple (wr6 n k))) s := by
  unfold WrAll
  rw [sq (skip4 n g k ops s (by omega)), sq (skip5 n g k ops s (by omega))]
  refine sqr ?_
  have e5 : k = 10 ∨ k = 11 ∨ k = 12 ∨ k = 13 ∨ k = 14 := by omega
  rcases e5 with rfl | rfl | rfl | rfl | rfl
  · unfold Wr6 Fw8 Net.d gN wr6 rul
    simp [put4, frD]
  · unfold Wr6 Fw8 Net.d gN wr6 rul
    simp [put4, frD]
  · unfold Wr6 Fw8 Net.d gN wr6 rul
    simp [put4, frD]
  · unfold Wr6 Fw8 Net.d gN wr6 rul
    simp [put4, frD]
  · unfold Wr6 Fw8 Net.d gN wr6 rul
    simp [put4, frD]
def sN (n : Net) (so : List Dat) : Dat := .tuple [busD n.nb, .tuple (n.ls.map Ln.d), .tuple so, .tuple (n.gs.map Gd.d), .tuple (rul n)]
def ws7 (n : Net) (k : Nat) : List Dat := match k with
  | 15 => []
  | 16 => n.ss.map Sr.d ++ n.ss.map Sr.d
  | 17 => [.tuple [.str "g9", .str "zz", .int 3]]
  | _ => [.tuple [.str "g9", .str "a", .int 0]]
theorem w7_ok (hb : n.nb = 1 ∨ n.nb = 2 ∨ n.nb = 3) (hs : n.ss.length ≤ 10) (k : Nat) (hk : 15 ≤ k) (hk2 : k < 19) : WrAll (Fw8 n g k ops) s = .rt (sN n (ws7 n k)) s := by
  obtain ⟨bs, hbs⟩ : ∃ bs : List Str, busL n.nb = ("a" : Str) :: bs := by
    rcases hb with e | e | e <;> rw [e]
    · exact ⟨[], rfl⟩
    · exact ⟨["b"], rfl⟩
    · exact ⟨["b", "c"], rfl⟩
  have z1 : n.ss.length + n.ss.length ≤ 16777216 := by omega
  unfold WrAll
  rw [sq (skip4 n g k ops s (by omega)), sq (skip5 n g k ops s (by omega)), sq (skip6 n g k ops s (by omega))]
  refine sqr ?_
  have e5 : k = 15 ∨ k = 16 ∨ k = 17 ∨ k = 18 := by omega
  rcases e5 with rfl | rfl | rfl | rfl
  · unfold Wr7 Fw8 Net.d sN ws7 rul busD
    simp [put2, hbs, z1]
  · unfold Wr7 Fw8 Net.d sN ws7 rul busD
    simp [put2, hbs, z1]
  · unfold Wr7 Fw8 Net.d sN ws7 rul busD
    simp [put2, hbs, z1]
  · unfold Wr7 Fw8 Net.d sN ws7 rul busD
    simp [put2, hbs, z1]
def bN (n : Net) (b : List Dat) : Dat := .tuple [.tuple b, .tuple (n.ls.map Ln.d), .tuple (n.ss.map Sr.d), .tuple (n.gs.map Gd.d), .tuple (rul n)]
def wb8 (n : Net) (k : Nat) : List Dat := match k with
  | 19 => []
  | 20 => (busL n.nb ++ (["a"] : List Str)).map PyData.str
  | _ => [.str "b0", .str "b1", .str "b2", .str "b3", .str "b4", .str "b5", .str "b6"]
theorem seven (e : Lcs) (h : 21 < e.length) : lcL (gSet 21) cYes E2__law_wrong e (ups 0 7) s = .ok [.str "b0", .str "b1", .str "b2", .str "b3", .str "b4", .str "b5", .str "b6"] s := by
  have hE : ∀ (a : Fin 7) (e : Lcs), e[21]? = some (.fz (.int (a : Nat))) → E2__law_wrong e s = .ok (.str (numS "b" (a : Nat))) s := fun a e h => by
    have q := str_small ((a : Nat) : Int) (by omega) (by omega) s
    unfold E2__law_wrong
    have l1 : ("b" : Str).length = 1 := by decide
    simp only [fBin, fCall, fCons, fNil, fC, fVar, h, Res.bind]
    obtain ⟨i, hi⟩ := a
    have e7 : i = 0 ∨ i = 1 ∨ i = 2 ∨ i = 3 ∨ i = 4 ∨ i = 5 ∨ i = 6 := by omega
    rcases e7 with rfl | rfl | rfl | rfl | rfl | rfl | rfl <;> kernel_rfl
  have lc := lc_map (fun a : Fin 7 => PyData.int (a : Nat)) (fun a : Fin 7 => PyData.str (numS "b" (a : Nat))) 21 E2__law_wrong s (e := e) h hE (List.finRange 7)
  have e1 : (List.finRange 7).map (fun a : Fin 7 => PyData.int (a : Nat)) = ups 0 7 := by kernel_rfl
  have e2 : (List.finRange 7).map (fun a : Fin 7 => PyData.str (numS "b" (a : Nat))) = [.str "b0", .str "b1", .str "b2", .str "b3", .str "b4", .str "b5", .str "b6"] := by kernel_rfl
  rw [e1, e2] at lc
  exact lc
theorem w8_ok (hb : n.nb = 1 ∨ n.nb = 2 ∨ n.nb = 3) (k : Nat) (hk : 19 ≤ k) (hk2 : k < 22) : WrAll (Fw8 n g k ops) s = .rt (bN n (wb8 n k)) s := by
  obtain ⟨bs, hbs, hbl⟩ : ∃ bs : List Str, busL n.nb = ("a" : Str) :: bs ∧ bs.length ≤ 2 := by
    rcases hb with e | e | e <;> rw [e]
    · exact ⟨[], rfl, by decide⟩
    · exact ⟨["b"], rfl, by decide⟩
    · exact ⟨["b", "c"], rfl, by decide⟩
  have cc : cutD (.str "a" :: bs.map PyData.str) none (some 1) = [.str "a"] := by
    have := cut_take (xs := .str "a" :: bs.map PyData.str) (j := 1) (by simp)
    simpa using this
  have z1 : bs.length + 1 + 1 ≤ 16777216 := by omega
  have sv := fun e h => seven s e h
  have cr : cRng 7 = true := by decide
  have ul : (ups 0 7).length = 7 := ups_len 0 7
  unfold WrAll
  rw [sq (skip4 n g k ops s (by omega)), sq (skip5 n g k ops s (by omega)), sq (skip6 n g k ops s (by omega)), sq (skip7 n g k ops s (by omega))]
  refine sqr ?_
  have e5 : k = 19 ∨ k = 20 ∨ k = 21 := by omega
  rcases e5 with rfl | rfl | rfl
  · unfold Wr8 Fw8 Net.d bN wb8 rul busD
    simp [put0, hbs, z1, cc, sv, cr, ul]
  · unfold Wr8 Fw8 Net.d bN wb8 rul busD
    simp [put0, hbs, z1, cc, sv, cr, ul]
  · unfold Wr8 Fw8 Net.d bN wb8 rul busD
    simp [put0, hbs, z1, cc, sv, cr, ul]
def w9D (n : Net) (k : Nat) : Dat := match k with
  | 22 => .tuple [busD n.nb, .tuple (n.ls.map Ln.d), .tuple (n.ss.map Sr.d), .tuple (n.gs.map Gd.d), .tuple (rul n), .int 0]
  | _ => .list [busD n.nb, .tuple (n.ls.map Ln.d), .tuple (n.ss.map Sr.d), .tuple (n.gs.map Gd.d), .tuple (rul n)]
theorem w9_ok (k : Nat) (hk : 22 ≤ k) (hk2 : k < 24) : WrAll (Fw8 n g k ops) s = .rt (w9D n k) s := by
  unfold WrAll
  rw [sq (skip4 n g k ops s (by omega)), sq (skip5 n g k ops s (by omega)), sq (skip6 n g k ops s (by omega)), sq (skip7 n g k ops s (by omega)), sq (skip8 n g k ops s (by omega))]
  have e5 : k = 22 ∨ k = 23 := by omega
  rcases e5 with rfl | rfl
  · unfold Wr9 Fw8 Net.d w9D rul
    simp
  · unfold Wr9 Fw8 Net.d w9D rul
    simp
end
end LW
namespace LW
open PySem DL L2
theorem gr_all {n : Net} (h : NetOk n) : GrOk (n.gs.map gdR) := by
  have e0 : (n.gs.map gdR).map Prod.fst = n.gs.map Gd.nm := by rw [List.map_map]; rfl
  refine ⟨fun p hp => ?_, fun p hp => ?_, by rw [e0]; exact h.gs.nd, by rw [List.length_map]; have := h.gs.le; omega⟩
  · obtain ⟨g, hg, rfl⟩ := List.mem_map.mp hp
    exact (h.gs.each g hg).2
  · obtain ⟨g, hg, rfl⟩ := List.mem_map.mp hp
    simp [gdR]
theorem gN_is (n : Net) (gs : List Gd) (nm : Str) (x : List Dat) (r : List Dat) : gN n (gs.map Gd.d ++ [.tuple (.str nm :: x)]) (.tuple r) = Dn n (gs.map gdR ++ [(nm, x)]) r := by
  unfold gN Dn D5 busD
  rw [List.map_append, rows_gs]
  rfl
theorem wrong_bad {n : Net} (h : NetOk n) {g : Gd} (hg : g ∈ n.gs) (k : Nat) (hk : k < 24) {b : Str × Int} {os : List (Str × Int)} (ho : g.op = b :: os) (s : Sto) : ∃ d, WrAll (Fw8 n g k (g.op.map brD)) s = .rt d s ∧ ∀ s, Rs (g_check_net [d] s) s := by
  obtain ⟨o1, o2, o3⟩ := op_facts h hg
  have hb : b ∈ bsC n.ls.length n.ss.length := o1 b (by rw [ho]; simp)
  have l4 := h.gs.le
  have rl : (restG n g).length ≤ 20 := Nat.le_trans (List.length_filter_le _ _) (by omega)
  have hos : os.length ≤ 10 := by rw [ho] at o3; simp at o3; omega
  have eo : g.op.map brD = brD b :: os.map brD := by rw [ho]; rfl
  have ga := gr_all h
  have gsd : (n.gs.map gdR).map row = n.gs.map Gd.d := rows_gs n.gs
  have hl : n.least.natAbs ≤ 100 := by have := h.l1; have := h.l2; have := h.l3; omega
  by_cases k1 : k < 5
  · refine ⟨_, by rw [eo]; exact w4_ok n g s (brD b) (os.map brD) (by simpa using hos) rl k k1, fun s => ?_⟩
    rw [gN_is]
    have e : wg4 g (brD b) (brD b :: os.map brD) k = wrG g b k := by
      have e5 : k = 0 ∨ k = 1 ∨ k = 2 ∨ k = 3 ∨ k = 4 := by omega
      rcases e5 with rfl | rfl | rfl | rfl | rfl <;> simp [wg4, wrG, opD, ho]
    rw [e]
    exact guard_bad h hg hb k (rul n) s
  by_cases k2 : k < 10
  · refine ⟨_, by rw [eo]; exact w5_ok n g s (brD b) (os.map brD) rl k (by omega) k2, fun s => ?_⟩
    rw [gN_is]
    have e : wg5 g (brD b) (brD b :: os.map brD) k = wrG g b k := by
      have e5 : k = 5 ∨ k = 6 ∨ k = 7 ∨ k = 8 ∨ k = 9 := by omega
      rcases e5 with rfl | rfl | rfl | rfl | rfl <;> simp [wg5, wrG, opD, ho]
    rw [e]
    exact guard_bad h hg hb k (rul n) s
  by_cases k3 : k < 15
  · refine ⟨_, w6_ok n g (g.op.map brD) s hl k (by omega) k3, fun s => ?_⟩
    have e : gN n (n.gs.map Gd.d) (.tuple (wr6 n k)) = Dn n (n.gs.map gdR) (wr6 n k) := by
      unfold gN Dn D5 busD
      rw [gsd]
    rw [e]
    refine net_rules_bad h n.gs (fun g hg => (h.gs.each g hg).1) ga (wr6 n k) s (rules_bad h.er h.l1 h.l2 h.l3 s (wr6 n k) (ticks := n.ticks) ?_)
    have e5 : k = 10 ∨ k = 11 ∨ k = 12 ∨ k = 13 ∨ k = 14 := by omega
    rcases e5 with rfl | rfl | rfl | rfl | rfl
    · exact .inl rfl
    · exact .inr (.inl rfl)
    · exact .inr (.inr (.inl rfl))
    · exact .inr (.inr (.inr (.inl rfl)))
    · exact .inr (.inr (.inr (.inr rfl)))
  by_cases k4 : k < 19
  · have l2 := (srs_names h.ss).2
    refine ⟨_, w7_ok n g (g.op.map brD) s h.nb (by omega) k (by omega) k4, fun s => ?_⟩
    have e5 : k = 15 ∨ k = 16 ∨ k = 17 ∨ k = 18 := by omega
    rcases e5 with rfl | rfl | rfl | rfl
    · exact sr_no h (gs := n.gs) (rul n) s
    · exact sr_twice h (gs := n.gs) ga (rul n) s
    · exact sr_bad h (gs := n.gs) ga (rul n) s _ (.inl rfl)
    · exact sr_bad h (gs := n.gs) ga (rul n) s _ (.inr rfl)
  by_cases k5 : k < 22
  · refine ⟨_, w8_ok n g (g.op.map brD) s h.nb k (by omega) k5, fun s => ?_⟩
    have e5 : k = 19 ∨ k = 20 ∨ k = 21 := by omega
    rcases e5 with rfl | rfl | rfl
    · exact bs_no _ _ _ _ s
    · exact bs_twice h (gs := n.gs) ga (rul n) s
    · exact bs_many _ _ _ _ _ rfl s
  · refine ⟨_, w9_ok n g (g.op.map brD) s k (by omega) hk, fun s => ?_⟩
    have e5 : k = 22 ∨ k = 23 := by omega
    rcases e5 with rfl | rfl
    · exact form_six _ _ _ _ _ s
    · exact form_list _ s
def Fs (n : Net) (a2 a3 a4 a5 a6 a7 a8 a9 a10 a11 a12 a13 : Slt) : Lcs := [.fz (cel 0), .fz n.d, a2, a3, a4, a5, a6, a7, a8, a9, a10, a11, a12, a13, .un, .un, .un, .un, .un, .un, .un, .un]
theorem wrong_ok (cs : List Int) (k : Int) (hk : 0 ≤ k) (hk2 : k + 10 < 2 ^ 40) {n : Net} (h : NetOk n) : ∃ d k', k ≤ k' ∧ k' ≤ k + 2 ∧ g__law_wrong [cel 0, n.d] (dst cs k) = .ok d (dst cs k') ∧ ∀ s, Rs (g_check_net [d] s) s := by
  have l3 := h.gs.ge
  have l4 := h.gs.le
  obtain ⟨v, v0, v1, e1⟩ := next_ok cs k n.gs.length hk (by omega) (by omega)
  obtain ⟨m, m0, m1, e2⟩ := next_ok cs (k + 1) 24 (by omega) (by omega) (by decide)
  have hj : v.toNat < n.gs.length := by omega
  obtain ⟨g, hge⟩ : ∃ g, n.gs[v.toNat]? = some g := ⟨_, List.getElem?_eq_getElem hj⟩
  have hg : g ∈ n.gs := List.mem_of_getElem? hge
  have at_ : L2.atI (n.gs.map Gd.d) v = some g.d := at_get (j := v.toNat) v (by omega) (by rw [List.getElem?_map, hge]; rfl)
  obtain ⟨o1, o2, o3⟩ := op_facts h hg
  obtain ⟨b, os, ho⟩ : ∃ b os, g.op = b :: os := by
    cases q : g.op with
    | nil => rw [q] at o2; simp at o2
    | cons b os => exact ⟨b, os, rfl⟩
  obtain ⟨j, rfl⟩ : ∃ j : Nat, m = j := ⟨m.toNat, by omega⟩
  obtain ⟨d, w, bad⟩ := wrong_bad h hg j (by omega) ho (dst cs (k + 1 + 1))
  refine ⟨d, k + 1 + 1, by omega, by omega, ?_, bad⟩
  have c0 : Wr0 (Fs n .un .un .un .un .un .un .un .un .un .un .un .un) (dst cs k) = .nx (Fs n (.fz (busD n.nb)) (.fz (.tuple (n.ls.map Ln.d))) (.fz (.tuple (n.ss.map Sr.d))) (.fz (.tuple (n.gs.map Gd.d))) (.fz (.tuple (rul n))) .un .un .un .un .un .un .un) (dst cs k) := by
    unfold Wr0 Fs Net.d rul
    simp
  have c1 : Wr1 (Fs n (.fz (busD n.nb)) (.fz (.tuple (n.ls.map Ln.d))) (.fz (.tuple (n.ss.map Sr.d))) (.fz (.tuple (n.gs.map Gd.d))) (.fz (.tuple (rul n))) .un .un .un .un .un .un .un) (dst cs k) = .nx (Fs n (.fz (busD n.nb)) (.fz (.tuple (n.ls.map Ln.d))) (.fz (.tuple (n.ss.map Sr.d))) (.fz (.tuple (n.gs.map Gd.d))) (.fz (.tuple (rul n))) (.fz g.d) (.fz (.int j)) .un .un .un .un .un) (dst cs (k + 1 + 1)) := by
    unfold Wr1 Fs
    simp [e1, e2, at_]
  have c2 : Wr2 (Fs n (.fz (busD n.nb)) (.fz (.tuple (n.ls.map Ln.d))) (.fz (.tuple (n.ss.map Sr.d))) (.fz (.tuple (n.gs.map Gd.d))) (.fz (.tuple (rul n))) (.fz g.d) (.fz (.int j)) .un .un .un .un .un) (dst cs (k + 1 + 1)) = .nx (Fs n (.fz (busD n.nb)) (.fz (.tuple (n.ls.map Ln.d))) (.fz (.tuple (n.ss.map Sr.d))) (.fz (.tuple (n.gs.map Gd.d))) (.fz (.tuple (rul n))) (.fz g.d) (.fz (.int j)) (.fz (.str g.nm)) (.fz g.td.d) (.fz (.int g.dl)) (.fz (.tuple (g.op.map brD))) .un) (dst cs (k + 1 + 1)) := by
    unfold Wr2 Fs Gd.d
    simp
  have c3 : Wr3 (Fs n (.fz (busD n.nb)) (.fz (.tuple (n.ls.map Ln.d))) (.fz (.tuple (n.ss.map Sr.d))) (.fz (.tuple (n.gs.map Gd.d))) (.fz (.tuple (rul n))) (.fz g.d) (.fz (.int j)) (.fz (.str g.nm)) (.fz g.td.d) (.fz (.int g.dl)) (.fz (.tuple (g.op.map brD))) .un) (dst cs (k + 1 + 1)) = .nx (Fw8 n g j (g.op.map brD)) (dst cs (k + 1 + 1)) := by
    have q := fun e h7 hl => rest_lc h hg (e := e) h7 hl (dst cs (k + 1 + 1)) n.gs fun x hx => hx
    have z1 : n.gs.length < 16777216 := by omega
    have z2 : (restG n g).length ≤ 16777216 := Nat.le_trans (List.length_filter_le _ _) (by omega)
    unfold restG at z2
    unfold Wr3 Fs Fw8 restG
    generalize (n.gs.filter fun x => decide (x.nm ≠ g.nm)) = rg at *
    simp [q, z1, z2]
  show (runF 2 22 F__law_wrong [cel 0, n.d] (dst cs k)).noex = _
  have e : F__law_wrong (Fs n .un .un .un .un .un .un .un .un .un .un .un .un) (dst cs k) = .rt d (dst cs (k + 1 + 1)) := by
    rw [Wris, sq c0, sq c1, sq c2, sq c3]
    exact w
  unfold runF
  rw [if_pos (show [cel 0, n.d].length = 2 from rfl)]
  show Res.noex (match F__law_wrong (Fs n .un .un .un .un .un .un .un .un .un .un .un .un) (dst cs k) with
      | .nx _ s' => Res.ok PyData.none s'
      | .rt d s' => .ok d s'
      | .ex x _ s' => .ex x s'
      | _ => .bad) = _
  rw [e]
  rfl
end LW
namespace LW
open PySem DL L2
def Fl0 : FS := (sCell 1 (fCons (fSl (fVar 0) fNo (fSome (fC (.int 63)))) (fCons (fC (.int 0)) (fCons (fC (.int 0)) fNil))))
def Fl1 : FS := (sSet 2 (fCallD g__law_net (fCons (fVar 1) fNil)))
def Fl2 : FS := (sDrop (fCall g_check_net (fCons (fVar 2) fNil)))
def Fl3 : FS := (sIf (fOr (fNot (fB (fCallD g_is_net (fCons (fVar 2) fNil)))) (fB (fBin gEq (fBin gIx3 (fVar 2) (fC (.int 3))) (fTup fNil)))) (sRet (fC (.bool false))) sNext)
def Fl4 : FS := (sFor (fItA gRng1 (fCons (fC (.int 4)) fNil)) (gSet 3) B1_law)
def Fl5 : FS := (sSet 4 (fLst (fCons (fTup (fCons (fC (.str "k")) (fCons (fBin gIx3 (fBin gIx3 (fVar 2) (fC (.int 0))) (fC (.int 0))) (fCons (fBin gIx3 (fBin gIx3 (fVar 2) (fC (.int 0))) (fC (.int 0))) (fCons (fC (.int 3)) fNil))))) (fCons (fTup (fCons (fC (.str "k")) (fCons (fBin gIx3 (fBin gIx3 (fVar 2) (fC (.int 0))) (fC (.int 0))) (fCons (fC (.str "zz")) (fCons (fC (.int 3)) fNil))))) (fCons (fTup (fCons (fC (.str "k")) (fCons (fBin gIx3 (fBin gIx3 (fVar 2) (fC (.int 0))) (fC (.int 0))) (fCons (fBin gIx3 (fBin gIx3 (fVar 2) (fC (.int 0))) (fUn gNeg (fC (.int 1)))) (fCons (fC (.int 1001)) fNil))))) (fCons (fTup (fCons (fC (.str "ticks")) (fCons (fBin gIx3 (fBin gIx3 (fVar 2) (fC (.int 0))) (fC (.int 0))) (fCons (fBin gIx3 (fBin gIx3 (fVar 2) (fC (.int 0))) (fUn gNeg (fC (.int 1)))) (fCons (fC (.int 3)) fNil))))) (fCons (fTup (fCons (fC (.str "nine90123")) (fCons (fBin gIx3 (fBin gIx3 (fVar 2) (fC (.int 0))) (fC (.int 0))) (fCons (fBin gIx3 (fBin gIx3 (fVar 2) (fC (.int 0))) (fUn gNeg (fC (.int 1)))) (fCons (fC (.int 3)) fNil))))) fNil)))))))
def Fl6 : FS := (sRet (fAndV (fNotV (fCall gAny (fCons (fLc (fIter (fVar 4)) (gSet 6) cYes E2_law [6]) fNil))) (fAndV (fNotV (fCallD g_is_net (fCons (fC .none) fNil))) (fNotV (fCallD g_is_net (fCons (fTup fNil) fNil))))))
theorem Flis : F_law = (sSeq Fl0 (sSeq Fl1 (sSeq Fl2 (sSeq Fl3 (sSeq Fl4 (sSeq Fl5 Fl6)))))) := rfl
def Tn0 : FS := (sSet 5 (fCallD g__law_wrong (fCons (fVar 1) (fCons (fVar 2) fNil))))
def Tn1 : FS := (sTry [2] (sSeq (sDrop (fCall g_check_net (fCons (fVar 5) fNil)))
    (sRet (fC (.bool false)))) (sIf (fB (fCallD g_is_net (fCons (fVar 5) fNil))) (sRet (fC (.bool false))) sNext))
theorem Tnis : B1_law = fun e s => (sSeq Tn0 Tn1) e s := rfl
def Fw (N a2 a3 a4 a5 a6 : Slt) : Lcs := [N, .fz (cel 0), a2, a3, a4, a5, a6]
theorem turn_one (N a4 a6 : Slt) {n : Net} (h : NetOk n) (cs : List Int) (k : Int) (hk : 0 ≤ k) (hk2 : k + 10 < 2 ^ 40) (a3 a5 : Slt) : ∃ b5 k', k ≤ k' ∧ k' ≤ k + 2 ∧ B1_law (Fw N (.fz n.d) a3 a4 a5 a6) (dst cs k) = .nx (Fw N (.fz n.d) a3 a4 b5 a6) (dst cs k') := by
  obtain ⟨d, k', p1, p2, e, bad⟩ := wrong_ok cs k hk hk2 h
  refine ⟨.fz d, k', p1, p2, ?_⟩
  obtain ⟨x, y, bd⟩ := bad (dst cs k')
  have ib := is_net_bad (bad (dst cs k'))
  have c0 : Tn0 (Fw N (.fz n.d) a3 a4 a5 a6) (dst cs k) = .nx (Fw N (.fz n.d) a3 a4 (.fz d) a6) (dst cs k') := by
    unfold Tn0 Fw
    simp [e]
  rw [Tnis]
  show sSeq Tn0 Tn1 _ _ = _
  rw [sq c0]
  unfold Tn1 Fw
  simp [sTry, bd, bx, ib]
theorem loop_ok (N a4 a6 : Slt) {n : Net} (h : NetOk n) (cs : List Int) : ∀ (is : List Int) (k : Int) (a3 a5 : Slt), 0 ≤ k → k + 2 * is.length + 20 < 2 ^ 40 → ∃ b3 b5 k', k ≤ k' ∧ k' ≤ k + 2 * is.length ∧ forL (gSet 3) B1_law (is.map PyData.int) (Fw N (.fz n.d) a3 a4 a5 a6) (dst cs k) = .nx (Fw N (.fz n.d) b3 a4 b5 a6) (dst cs k')
  | [], k, a3, a5, _, _ => ⟨a3, a5, k, by omega, by simp, rfl⟩
  | i :: is, k, a3, a5, hk, hk2 => by
    simp only [List.length_cons] at hk2
    push_cast at hk2
    obtain ⟨b5, k1, p1, p2, e⟩ := turn_one N a4 a6 h cs k hk (by omega) (.fz (.int i)) a5
    obtain ⟨c3, c5, k2, q1, q2, e2⟩ := loop_ok N a4 a6 h cs is k1 (.fz (.int i)) b5 (by omega) (by omega)
    refine ⟨c3, c5, k2, by omega, by simp only [List.length_cons]; push_cast; omega, ?_⟩
    rw [List.map_cons, forL_cons rfl e]
    exact e2
theorem gs_ne {n : Net} (h : NetOk n) (s : Sto) : gEq (.tuple (n.gs.map Gd.d)) (.tuple []) s = .ok (.bool false) s := by
  have lg := lay_map Gd.d n.gs fun g hg => (sh_gd h hg).2
  have dg := dep_map Gd.d 20 n.gs fun g hg => by
    have q : ∀ td : Td, td.d.depth ≤ 3 := fun td => by cases td <;> simp [Td.d, brD, frD, PyData.depth, PyData.depthAll]
    have a := q g.td
    have b := dep_map brD 2 g.op fun b hb => by simp [brD, PyData.depth, PyData.depthAll]
    simp [Gd.d, PyData.depth, PyData.depthAll]
    omega
  have l3 := h.gs.ge
  have sh : SeqAt.shaped (.tuple (n.gs.map Gd.d)) = true := by
    unfold SeqAt.shaped
    have d1 : (PyData.tuple (n.gs.map Gd.d)).depth ≤ 64 := by simp [PyData.depth]; omega
    rw [show (PyData.tuple (n.gs.map Gd.d)).canLay0 = true by simp [PyData.canLay0, lg], decide_eq_true d1]
    rfl
  have s2 : SeqAt.shaped (.tuple []) = true := by decide +kernel
  unfold gEq
  rw [sh, s2]
  cases q : n.gs with
  | nil => rw [q] at l3; simp at l3
  | cons g gs => rfl
theorem lines_is {n : Net} (h : NetOk n) (N a3 a4 a5 a6 : Slt) (s : Sto) : Fl5 (Fw N (.fz n.d) a3 a4 a5 a6) s = .nx (Fw N (.fz n.d) a3 (.fz (.list ((List.range 5).map fun k => row (wrL n.nb k)))) a5 a6) s := by
  have e1 : gIx3 n.d (.int 0) s = .ok (busD n.nb) s := by unfold Net.d; simp
  have e2 : gIx3 (busD n.nb) (.int 0) s = .ok (.str "a") s := by
    rcases h.nb with e | e | e <;> rw [e] <;> kernel_rfl
  have e3 : gIx3 (busD n.nb) (.int (-1)) s = .ok (.str (lastB n.nb)) s := by
    rcases h.nb with e | e | e <;> rw [e] <;> kernel_rfl
  unfold Fl5 Fw
  simp [-gIx3, e1, e2, e3, wrL, row, List.range, List.range.loop]
theorem any_is {n : Net} (h : NetOk n) (N a3 a5 a6 : Slt) (s : Sto) : (fLc (fIter (fVar 4)) (gSet 6) cYes E2_law [6]) (Fw N (.fz n.d) a3 (.fz (.list ((List.range 5).map fun k => row (wrL n.nb k)))) a5 a6) s = .ok (.list [.bool false, .bool false, .bool false, .bool false, .bool false]) s := by
  have l1 := (lns_names h.ls).2
  have e1 : gIx3 n.d (.int 1) s = .ok (.tuple (n.ls.map Ln.d)) s := by unfold Net.d; simp
  have hE : ∀ k, ∀ e : Lcs, e[2]? = some (.fz n.d) → e[6]? = some (.fz (row (wrL n.nb k))) → E2_law e s = .ok (.bool false) s := fun k e h2 h6 => by
    have q : g_is_net [.tuple [busD n.nb, .tuple (n.ls.map Ln.d ++ [row (wrL n.nb k)]), .tuple (n.ss.map Sr.d), .tuple (n.gs.map Gd.d), .tuple (rul n)]] s = .ok (.bool false) s := is_net_bad (line_bad h (gs := n.gs) (gr_all h) (rul n) s k)
    have y : n.ls.length ≤ 16777215 := by omega
    have z : (n.ls.map Ln.d).length + 1 ≤ 16777216 := by rw [List.length_map]; omega
    have p := put1 s (busD n.nb) (.tuple (n.ls.map Ln.d)) (.tuple (n.ss.map Sr.d)) (.tuple (n.gs.map Gd.d)) (.tuple (rul n)) (.tuple (n.ls.map Ln.d ++ [row (wrL n.nb k)]))
    have nd : n.d = .tuple [busD n.nb, .tuple (n.ls.map Ln.d), .tuple (n.ss.map Sr.d), .tuple (n.gs.map Gd.d), .tuple (rul n)] := rfl
    have ad : gAdd (.tuple (n.ls.map Ln.d)) (.tuple [row (wrL n.nb k)]) s = .ok (.tuple (n.ls.map Ln.d ++ [row (wrL n.nb k)])) s := by
      simp
      omega
    unfold E2_law
    rw [← nd] at p
    simp only [fCallD, fCons, fNil, fVar, fBin, fC, fTup, h2, h6, Res.bind, e1, ad, p, Res.noex]
    simp only [cLen, List.length_cons, List.length_nil, size_line]
    simp [ad, p, y, q]
  unfold Fw
  have lc := lc_some (fun k : Nat => row (wrL n.nb k)) (gSet 6) E2_law [N, .fz (cel 0), .fz n.d, a3, .fz (.list ((List.range 5).map fun k => row (wrL n.nb k))), a5, .un] s (fun _ => false) (List.range 5) fun k _ => ⟨_, rfl, hE k _ rfl rfl⟩
  simp only [fLc, fIter, fVar, wipeE]
  simp [lc]
  rfl
theorem law_true (ns : List Int) (h : ns.length ≤ 63) : ∃ s, g_law [seal_ ns] [] = .ok (.bool true) s := by
  have hcut : ∃ cs : List Int, cutD (ns.map PyData.int) none (some 63) = cs.map PyData.int := by
    unfold cutD
    exact ⟨_, by rw [← List.map_drop, ← List.map_take]⟩
  obtain ⟨cz, hcs⟩ := hcut
  obtain ⟨n, k1, p1, p2, hn, e1⟩ := net_ok cz 0 (by decide) (by decide)
  have ck := check_ok n hn (dst cz k1)
  have il := is_net_ok ck
  have c0 : Fl0 [.fz (seal_ ns), .un, .un, .un, .un, .un, .un] [] = .nx (Fw (.fz (seal_ ns)) .un .un .un .un .un) (dst cz 0) := by
    unfold Fl0 Fw
    simp [hcs]
  have c1 : Fl1 (Fw (.fz (seal_ ns)) .un .un .un .un .un) (dst cz 0) = .nx (Fw (.fz (seal_ ns)) (.fz n.d) .un .un .un .un) (dst cz k1) := by
    unfold Fl1 Fw
    simp [e1]
  have c2 : Fl2 (Fw (.fz (seal_ ns)) (.fz n.d) .un .un .un .un) (dst cz k1) = .nx (Fw (.fz (seal_ ns)) (.fz n.d) .un .un .un .un) (dst cz k1) := by
    unfold Fl2 Fw
    simp [ck]
  have c3 : Fl3 (Fw (.fz (seal_ ns)) (.fz n.d) .un .un .un .un) (dst cz k1) = .nx (Fw (.fz (seal_ ns)) (.fz n.d) .un .un .un .un) (dst cz k1) := by
    have g3 : gIx3 n.d (.int 3) (dst cz k1) = .ok (.tuple (n.gs.map Gd.d)) (dst cz k1) := by unfold Net.d; simp
    have ne := gs_ne hn (dst cz k1)
    unfold Fl3 Fw
    simp [-gIx3, il, g3, ne]
  obtain ⟨b3, b5, k2, q1, q2, lp⟩ := loop_ok (.fz (seal_ ns)) .un .un hn cz [0, 1, 2, 3] k1 .un .un (by omega) (by simp; omega)
  have c4 : Fl4 (Fw (.fz (seal_ ns)) (.fz n.d) .un .un .un .un) (dst cz k1) = .nx (Fw (.fz (seal_ ns)) (.fz n.d) b3 .un b5 .un) (dst cz k2) := lp
  have c5 := lines_is hn (.fz (seal_ ns)) b3 .un b5 .un (dst cz k2)
  have an := any_is hn (.fz (seal_ ns)) b3 b5 .un (dst cz k2)
  have i1 := is_net_bad (form_none (dst cz k2))
  have i2 := is_net_bad (form_unit (dst cz k2))
  have c6 : Fl6 (Fw (.fz (seal_ ns)) (.fz n.d) b3 (.fz (.list ((List.range 5).map fun k => row (wrL n.nb k)))) b5 .un) (dst cz k2) = .rt (.bool true) (dst cz k2) := by
    unfold Fl6
    generalize (Fw (.fz (seal_ ns)) (.fz n.d) b3 (.fz (.list ((List.range 5).map fun k => row (wrL n.nb k)))) b5 .un) = E at *
    generalize (fLc (fIter (fVar 4)) (gSet 6) cYes E2_law [6]) = L at *
    simp [an, i1, i2]
  refine ⟨dst cz k2, ?_⟩
  show (runF 1 7 F_law [seal_ ns] []).noex = _
  unfold runF
  rw [if_pos (show [seal_ ns].length = 1 from rfl)]
  show Res.noex (match F_law [.fz (seal_ ns), .un, .un, .un, .un, .un, .un] [] with
      | .nx _ s' => Res.ok PyData.none s'
      | .rt d s' => .ok d s'
      | .ex x _ s' => .ex x s'
      | _ => .bad) = _
  rw [Flis, sq c0, sq c1, sq c2, sq c3, sq c4, sq c5, c6]
  rfl
end LW
open PySem PySem.W PyProof.Rows
set_option maxHeartbeats 0 in
theorem PySem.Challenge.cw_justthepart_k05_taken_nets_holds : PySem.Challenge.rw_justthepart_k05_taken_nets.Holds := by
  w_on; o_law; k_head; (case hw => w_witness2)
  k_fill
  refine L2.walk_of (l := PySem.Challenge.rw_justthepart_k05_taken_nets) (n := 63) (k := 7) (x := "_law_script") (CX := fun _ => L2.CX0) (sp := fun w => LW.spLaw _) rfl (by decide) rfl ⟨rfl, by decide, by decide⟩ (fun w h Y => PySem.W.kIn_of Y) ?F (fun _ _ a ns hl _ hS xc => DL.law_end hS (LW.law_true ns hl)) (fun _ _ _ _ _ h => h)
  case F =>
    intro w mg fa h KX G hmg
    refine LW.all_mk2 ?_
    refine' LW.all_mk KX G hmg ?aX_BadNet ?xL_BadNet ?xsa_BadNet ?xga_BadNet ?xgg_BadNet ?xi_BadNet ?xt_BadNet ?xl_BadNet ?xc_BadNet ?xk_BadNet ?xe_BadNet ?xy_BadNet ?xh_BadNet ?xp_BadNet ?xn0_BadNet ?xn1_BadNet ?xs_BadNet_BadNet ?a0 ?l0 ?c0 ?k0 ?a1 ?l1 ?c1 ?k1 ?a2 ?l2 ?c2 ?k2 ?a3 ?l3 ?c3 ?k3 ?a4 ?l4 ?c4 ?k4 ?a5 ?l5 ?c5 ?k5 ?a6 ?l6 ?c6 ?k6 ?a7 ?l7 ?c7 ?k7 ?a8 ?l8 ?c8 ?k8 ?a9 ?l9 ?c9 ?k9 ?a10 ?l10 ?c10 ?k10 ?a11 ?l11 ?c11 ?k11 ?a12 ?l12 ?c12 ?k12 ?a13 ?l13 ?c13 ?k13 ?a14 ?l14 ?c14 ?k14 ?a15 ?l15 ?c15 ?k15 ?a16 ?l16 ?c16 ?k16 ?a17 ?l17 ?c17 ?k17 ?a18 ?l18 ?c18 ?k18 ?a19 ?l19 ?c19 ?k19 ?a20 ?l20 ?c20 ?k20 ?a21 ?l21 ?c21 ?k21 ?a22 ?l22 ?c22 ?k22 ?a23 ?l23 ?c23 ?k23 ?a24 ?l24 ?c24 ?k24 ?a25 ?l25 ?c25 ?k25 ?a26 ?l26 ?c26 ?k26 ?z_abs ?z_all ?z_any ?z_bool ?z_enumerate ?z_int ?z_isinstance ?z_len ?z_list ?z_range ?z_sorted ?z_str ?z_tuple ?z_zip ?g_LETTERS ?g_MOST_AGE ?g_MOST_BUSES ?g_MOST_DELAY ?g_MOST_GUARDS ?g_MOST_LINES ?g_MOST_SOURCES ?g_MOST_TICKS ?g_MOST_X ?g_WORDS ?luWORDS
    (case aX_BadNet => k_is); (case xL_BadNet => k_is); (case xsa_BadNet => k_is); (case xga_BadNet => k_is); (case xgg_BadNet => k_is); (case xi_BadNet => k_is); (case xt_BadNet => k_is); (case xl_BadNet => k_is); (case xc_BadNet => k_is); (case xk_BadNet => k_is); (case xe_BadNet => k_is); (case xy_BadNet => k_is); (case xh_BadNet => k_is); (case xp_BadNet => k_is); (case xn0_BadNet => k_is); (case xn1_BadNet => k_is); (case xs_BadNet_BadNet => k_is); (case a0 => k_is); (case l0 => k_is); (case c0 => k_is); (case k0 => k_is); (case a1 => k_is); (case l1 => k_is); (case c1 => k_is); (case k1 => k_is); (case a2 => k_is); (case l2 => k_is); (case c2 => k_is); (case k2 => k_is); (case a3 => k_is); (case l3 => k_is); (case c3 => k_is); (case k3 => k_is); (case a4 => k_is); (case l4 => k_is); (case c4 => k_is); (case k4 => k_is); (case a5 => k_is); (case l5 => k_is); (case c5 => k_is); (case k5 => k_is); (case a6 => k_is); (case l6 => k_is); (case c6 => k_is); (case k6 => k_is); (case a7 => k_is); (case l7 => k_is); (case c7 => k_is); (case k7 => k_is); (case a8 => k_is); (case l8 => k_is); (case c8 => k_is); (case k8 => k_is); (case a9 => k_is); (case l9 => k_is); (case c9 => k_is); (case k9 => k_is); (case a10 => k_is); (case l10 => k_is); (case c10 => k_is); (case k10 => k_is); (case a11 => k_is); (case l11 => k_is); (case c11 => k_is); (case k11 => k_is); (case a12 => k_is); (case l12 => k_is); (case c12 => k_is); (case k12 => k_is); (case a13 => k_is); (case l13 => k_is); (case c13 => k_is); (case k13 => k_is); (case a14 => k_is); (case l14 => k_is); (case c14 => k_is); (case k14 => k_is); (case a15 => k_is); (case l15 => k_is); (case c15 => k_is); (case k15 => k_is); (case a16 => k_is); (case l16 => k_is); (case c16 => k_is); (case k16 => k_is); (case a17 => k_is); (case l17 => k_is); (case c17 => k_is); (case k17 => k_is); (case a18 => k_is); (case l18 => k_is); (case c18 => k_is); (case k18 => k_is); (case a19 => k_is); (case l19 => k_is); (case c19 => k_is); (case k19 => k_is); (case a20 => k_is); (case l20 => k_is); (case c20 => k_is); (case k20 => k_is); (case a21 => k_is); (case l21 => k_is); (case c21 => k_is); (case k21 => k_is); (case a22 => k_is); (case l22 => k_is); (case c22 => k_is); (case k22 => k_is); (case a23 => k_is); (case l23 => k_is); (case c23 => k_is); (case k23 => k_is); (case a24 => k_is); (case l24 => k_is); (case c24 => k_is); (case k24 => k_is); (case a25 => k_is); (case l25 => k_is); (case c25 => k_is); (case k25 => k_is); (case a26 => k_is); (case l26 => k_is); (case c26 => k_is); (case k26 => k_is); (case z_abs => k_is); (case z_all => k_is); (case z_any => k_is); (case z_bool => k_is); (case z_enumerate => k_is); (case z_int => k_is); (case z_isinstance => k_is); (case z_len => k_is); (case z_list => k_is); (case z_range => k_is); (case z_sorted => k_is); (case z_str => k_is); (case z_tuple => k_is); (case z_zip => k_is); (case g_LETTERS => k_is); (case g_MOST_AGE => k_is); (case g_MOST_BUSES => k_is); (case g_MOST_DELAY => k_is); (case g_MOST_GUARDS => k_is); (case g_MOST_LINES => k_is); (case g_MOST_SOURCES => k_is); (case g_MOST_TICKS => k_is); (case g_MOST_X => k_is); (case g_WORDS => k_is); (case luWORDS => k_is)
