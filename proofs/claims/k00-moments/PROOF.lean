import PyProof.Rows.All
import HandS.ForExc
import HandS.ForMost
import HandS.Wide
import HandS.Gcd
import HandS.Flow
import HandS.Style
import HandS.TupAny
import HandS.IsInst
import HandS.Comp
import HandS.CallSlots
import HandS.Defaults
import HandS.Star
import HandS.EndBits
import HandS.HeadHook4
import HandS.Head0
import HandS.Head1
import HandS.Head2
import HandS.ExcSuper
import HandS.ExcField
import HandS.ExcIs
import KE.KExcSuper
import KE.KSuper
import HandS.ExcInitHot
import HandS.Rev
import HandS.RevTup
import PyProof.ListRange
import HandS.HeadNt
import HandS.Head3
import PySem.Challenge.RW_bellrest_k00_moments
set_option Elab.async false
set_option linter.all false
set_option maxRecDepth 100000
set_option maxHeartbeats 4200000
/-! DL1: a data layer: values as plain data over a store of cells, and what a term does as a function. -/
namespace DL
open PySem PySem.Spec PyProof.Rows L2

inductive D where
  | non | bl (b : Bool) | int (i : Int) | str (x : Str) | tup (xs : List D) | fls (xs : List D) | loc (n : Nat)

inductive Cell where
  | lst (xs : List D)
  | dK (kvs : List (Key × D))
  | ins (c : Str) (fs : List (Str × D))
abbrev Sto := List Cell
structure Exn where
  cls : Str
  fs : List (Str × D)
inductive R (α : Type) where
  | ok (a : α) (s : Sto)
  | ex (e : Exn) (s : Sto)
  | no
def R.bind {α β : Type} : R α → (α → Sto → R β) → R β
  | .ok a s, f => f a s
  | .ex e s, _ => .ex e s
  | .no, _ => .no
inductive Sl where
  | un | d (x : D) | exn (e : Exn)
abbrev En := List Sl
/-- what a statement does -/
inductive RS where
  | nx (ρ : En) (s : Sto)
  | rt (d : D) (s : Sto)
  | bk (ρ : En) (s : Sto)
  | ct (ρ : En) (s : Sto)
  | ex (e : Exn) (ρ : En) (s : Sto)
  | no
abbrev EF := En → Sto → R D
abbrev AF := En → Sto → R (List D)
abbrev TF := En → Sto → R Bool
abbrev SF := En → Sto → RS
abbrev OF := En → Sto → R (Option Int)

/-- the written part, the own classes by name -/
structure SC where
  K : PySem.W.Frag
  cls : Str → Option Addr

/-! ### what stands for what -/
def FzL (K : PySem.W.Frag) (H : Hp) (a : Addr) (xs : List V) : Prop :=
  (∃ o, H a = some (.frz o (.lst xs))) ∨ ∃ (o : Obj) (its : Array Value) (n : Nat), K.lookup a = some o ∧ o.cls = .type "list" ∧ o.dict = none ∧ o.data = .seq its n ∧ its.size ≤ sizeLine ∧ Vals xs its.toList
theorem FzL.sq {K : PySem.W.Frag} {H : Hp} {a : Addr} {xs : List V} (h : FzL K H a xs) : SqL K H a xs := by
  rcases h with ⟨o, h⟩ | h
  · exact .inl (.inr ⟨o, h⟩)
  · exact .inr h
mutual
inductive Rp (K : PySem.W.Frag) (H : Hp) (ads : List Addr) : V → D → Prop
  | non : Rp K H ads .non .non
  | bl (b : Bool) : Rp K H ads (.bl b) (.bl b)
  | int (i : Int) : Rp K H ads (.int i) (.int i)
  | str {x : Str} (h : x.length ≤ sizeLine) : Rp K H ads (.str x) (.str x)
  | tup {a : Addr} {xs : List V} {ds : List D} : SqT K H a xs → Rps K H ads xs ds → ds.length ≤ sizeLine → Rp K H ads (.ref a) (.tup ds)
  | fls {a : Addr} {xs : List V} {ds : List D} : FzL K H a xs → Rps K H ads xs ds → ds.length ≤ sizeLine → Rp K H ads (.ref a) (.fls ds)
  | loc {a : Addr} {n : Nat} : ads[n]? = some a → Rp K H ads (.ref a) (.loc n)
inductive Rps (K : PySem.W.Frag) (H : Hp) (ads : List Addr) : List V → List D → Prop
  | nil : Rps K H ads [] []
  | cons {v : V} {vs : List V} {d : D} {ds : List D} : Rp K H ads v d → Rps K H ads vs ds → Rps K H ads (v :: vs) (d :: ds)
end
/-- what may become another thing -/
def Soft : Option HO → Prop
  | some (.tup _) => False
  | some (.frz _ _) => False
  | some (.xd _) => False
  | _ => True
structure Xt (K : PySem.W.Frag) (H : Hp) (ads : List Addr) (H' : Hp) (ads' : List Addr) : Prop where
  tup : ∀ a xs, SqT K H a xs → SqT K H' a xs
  fzl : ∀ a xs, FzL K H a xs → FzL K H' a xs
  xd : ∀ a fs, H a = some (.xd fs) → H' a = some (.xd fs)
  pre : ∃ l, ads' = ads ++ l
section
variable {K : PySem.W.Frag} {H H' H1 H2 : Hp} {ads ads' ads1 ads2 : List Addr} {p a : Addr} {o : HO} {v : V} {d : D} {vs xs : List V} {ds : List D}
theorem Xt.refl : Xt K H ads H ads := ⟨fun _ _ h => h, fun _ _ h => h, fun _ _ h => h, [], by simp⟩
theorem Xt.trans (a : Xt K H ads H1 ads1) (b : Xt K H1 ads1 H2 ads2) : Xt K H ads H2 ads2 :=
  ⟨fun x xs h => b.tup x xs (a.tup x xs h), fun x xs h => b.fzl x xs (a.fzl x xs h), fun x fs h => b.xd x fs (a.xd x fs h), by
    obtain ⟨l, e⟩ := a.pre
    obtain ⟨l', e'⟩ := b.pre
    exact ⟨l ++ l', by rw [e', e, List.append_assoc]⟩⟩
theorem soft_none {H : Hp} {p : Addr} (h : H p = none) : Soft (H p) := by rw [h]; trivial
theorem sqT_upd (h : SqT K H a xs) (hp : Soft (H p)) : SqT K (upd H p o) a xs := by
  rcases h with (h | ⟨ob, h⟩) | h
  · refine .inl (.inl ?_)
    rw [upd_ne]; exact h
    intro e; subst e; rw [h] at hp; exact hp
  · refine .inl (.inr ⟨ob, ?_⟩)
    rw [upd_ne]; exact h
    intro e; subst e; rw [h] at hp; exact hp
  · exact .inr h
theorem fzL_upd (h : FzL K H a xs) (hp : Soft (H p)) : FzL K (upd H p o) a xs := by
  rcases h with ⟨ob, h⟩ | h
  · refine .inl ⟨ob, ?_⟩
    rw [upd_ne]; exact h
    intro e; subst e; rw [h] at hp; exact hp
  · exact .inr h
theorem Xt.upd (hp : Soft (H p)) : Xt K H ads (L2.upd H p o) ads :=
  ⟨fun _ _ h => sqT_upd h hp, fun _ _ h => fzL_upd h hp, fun a fs h => by
    rw [upd_ne]; exact h
    intro e; subst e; rw [h] at hp; exact hp, [], by simp⟩
theorem Xt.updNew (hp : Soft (H p)) : Xt K H ads (L2.upd H p o) (ads ++ [p]) :=
  ⟨fun _ _ h => sqT_upd h hp, fun _ _ h => fzL_upd h hp, fun a fs h => by
    rw [upd_ne]; exact h
    intro e; subst e; rw [h] at hp; exact hp, [p], rfl⟩
theorem Xt.at_ (x : Xt K H ads H' ads') {n : Nat} (h : ads[n]? = some a) : ads'[n]? = some a := by
  obtain ⟨l, e⟩ := x.pre
  subst e
  rw [List.getElem?_append_left]; exact h; exact (List.getElem?_eq_some_iff.mp h).1
mutual
theorem Rp.mono (x : Xt K H ads H' ads') : ∀ {v : V} {d : D}, Rp K H ads v d → Rp K H' ads' v d
  | _, _, .non => .non
  | _, _, .bl b => .bl b
  | _, _, .int i => .int i
  | _, _, .str h => .str h
  | _, _, .tup h r z => .tup (x.tup _ _ h) (Rps.mono x r) z
  | _, _, .fls h r z => .fls (x.fzl _ _ h) (Rps.mono x r) z
  | _, _, .loc h => .loc (x.at_ h)
theorem Rps.mono (x : Xt K H ads H' ads') : ∀ {vs : List V} {ds : List D}, Rps K H ads vs ds → Rps K H' ads' vs ds
  | _, _, .nil => .nil
  | _, _, .cons r t => .cons (Rp.mono x r) (Rps.mono x t)
end
theorem Rps.length : ∀ {vs : List V} {ds : List D}, Rps K H ads vs ds → vs.length = ds.length
  | _, _, .nil => rfl
  | _, _, .cons _ t => by simp [Rps.length t]
theorem Rps.get : ∀ {vs : List V} {ds : List D} {i : Nat} {d : D}, Rps K H ads vs ds → ds[i]? = some d → ∃ v, vs[i]? = some v ∧ Rp K H ads v d
  | _, _, 0, _, .cons r _, e => by (simp at e; subst e; exact ⟨_, rfl, r⟩)
  | _, _, i + 1, d, .cons _ t, e => by
    obtain ⟨u, h1, h2⟩ := Rps.get (i := i) (d := d) t (by simpa using e); exact ⟨u, by simpa using h1, h2⟩
  | _, _, _, _, .nil, e => by (simp at e)
theorem Rps.getV {vs : List V} {ds : List D} {i : Nat} {v : V} (r : Rps K H ads vs ds) (e : vs[i]? = some v) : ∃ d, ds[i]? = some d ∧ Rp K H ads v d := by
  have hi := (List.getElem?_eq_some_iff.mp e).1
  rw [r.length] at hi
  obtain ⟨w, h1, h2⟩ := r.get (i := i) (d := ds[i]) (by simp [hi])
  rw [e] at h1; cases h1
  exact ⟨_, by simp [hi], h2⟩
theorem Rps.append : ∀ {vs ws : List V} {ds es : List D}, Rps K H ads vs ds → Rps K H ads ws es → Rps K H ads (vs ++ ws) (ds ++ es)
  | _, _, _, _, .nil, s => s
  | _, _, _, _, .cons r t, s => .cons r (Rps.append t s)
theorem Rps.set {v : V} {d : D} (r : Rp K H ads v d) : ∀ {vs : List V} {ds : List D} (i : Nat), Rps K H ads vs ds → Rps K H ads (vs.set i v) (ds.set i d)
  | _, _, _, .nil => .nil
  | _, _, 0, .cons _ t => (.cons r t)
  | _, _, i + 1, .cons q t => .cons q (Rps.set r i t)
theorem Rps.take : ∀ {vs : List V} {ds : List D} (n : Nat), Rps K H ads vs ds → Rps K H ads (vs.take n) (ds.take n)
  | _, _, 0, _ => .nil
  | _, _, _ + 1, .nil => .nil
  | _, _, n + 1, .cons r t => .cons r (Rps.take n t)
theorem Rps.drop : ∀ {vs : List V} {ds : List D} (n : Nat), Rps K H ads vs ds → Rps K H ads (vs.drop n) (ds.drop n)
  | _, _, 0, r => r
  | _, _, _ + 1, .nil => .nil
  | _, _, n + 1, .cons _ t => Rps.drop n t
theorem Rps.reverse : ∀ {vs : List V} {ds : List D}, Rps K H ads vs ds → Rps K H ads vs.reverse ds.reverse
  | _, _, .nil => .nil
  | _, _, .cons r t => by
    rw [List.reverse_cons, List.reverse_cons]; exact (Rps.reverse t).append (.cons r .nil)
theorem Rps.ints : ∀ (ns : List Int), Rps K H ads (ns.map V.int) (ns.map D.int)
  | [] => .nil
  | n :: ns => .cons (.int n) (Rps.ints ns)
theorem Rps.of_ints : ∀ {vs : List V} {ns : List Int}, Rps K H ads vs (ns.map D.int) → vs = ns.map V.int
  | [], [], _ => rfl
  | _ :: _, n :: ns, .cons r t => by
    cases r
    rw [Rps.of_ints t]
    rfl
end

/-! ### the store -/
def Rpf (K : PySem.W.Frag) (H : Hp) (ads : List Addr) (fs : List (Str × V)) (gs : List (Str × D)) : Prop :=
  fs.map (·.1) = gs.map (·.1) ∧ Rps K H ads (fs.map (·.2)) (gs.map (·.2))
def Rpk (K : PySem.W.Frag) (H : Hp) (ads : List Addr) (fs : List (Key × V)) (gs : List (Key × D)) : Prop :=
  fs.map (·.1) = gs.map (·.1) ∧ Rps K H ads (fs.map (·.2)) (gs.map (·.2))
def CellOk (Z : SC) (H : Hp) (ads : List Addr) (a : Addr) : Cell → Prop
  | .lst ds => ∃ xs, H a = some (.lst xs) ∧ Rps Z.K H ads xs ds ∧ ds.length ≤ sizeLine
  | .dK kvs => ∃ xs, H a = some (.dK xs) ∧ Rpk Z.K H ads xs kvs ∧ kvs.length ≤ sizeLine
  | .ins c fs => ∃ C dx xs, Z.cls c = some C ∧ H a = some (.ins C dx xs) ∧ Rpf Z.K H ads xs fs
structure Gd (Z : SC) (H : Hp) (ads : List Addr) (s : Sto) : Prop where
  len : ads.length = s.length
  nd : ads.Nodup
  ok : ∀ (n : Nat) (a : Addr) (c : Cell), ads[n]? = some a → s[n]? = some c → CellOk Z H ads a c
section
variable {Z : SC} {H H' H1 H2 : Hp} {ads ads' ads1 ads2 : List Addr} {s : Sto} {p a : Addr} {o : HO} {v : V} {d : D} {c : Cell}
theorem CellOk.some (h : CellOk Z H ads a c) : ∃ o, H a = some o ∧ Soft (Option.some o) := by
  cases c with
  | lst ds => obtain ⟨xs, h, _⟩ := h; exact ⟨_, h, trivial⟩
  | dK kvs => obtain ⟨xs, h, _⟩ := h; exact ⟨_, h, trivial⟩
  | ins c fs => obtain ⟨C, dx, xs, _, h, _⟩ := h; exact ⟨_, h, trivial⟩
theorem CellOk.mono (x : Xt Z.K H ads H' ads') (e : H' a = H a) (h : CellOk Z H ads a c) : CellOk Z H' ads' a c := by
  cases c with
  | lst ds => obtain ⟨xs, h, r, z⟩ := h; exact ⟨xs, e.trans h, r.mono x, z⟩
  | dK kvs => obtain ⟨xs, h, r, z⟩ := h; exact ⟨xs, e.trans h, ⟨r.1, r.2.mono x⟩, z⟩
  | ins c fs => obtain ⟨C, dx, xs, h0, h, r⟩ := h; exact ⟨C, dx, xs, h0, e.trans h, ⟨r.1, r.2.mono x⟩⟩
theorem Gd.cell (g : Gd Z H ads s) {n : Nat} (h : s[n]? = some c) : ∃ a, ads[n]? = Option.some a ∧ CellOk Z H ads a c := by
  have hn := (List.getElem?_eq_some_iff.mp h).1
  rw [← g.len] at hn
  exact ⟨ads[n], by simp [hn], g.ok n _ c (by simp [hn]) h⟩
theorem Gd.cellA (g : Gd Z H ads s) {n : Nat} (h : ads[n]? = some a) : ∃ c, s[n]? = some c ∧ CellOk Z H ads a c := by
  have hn := (List.getElem?_eq_some_iff.mp h).1
  rw [g.len] at hn
  exact ⟨s[n], by simp [hn], g.ok n _ _ h (by simp [hn])⟩
theorem Gd.notin (g : Gd Z H ads s) (hp : H p = none) : p ∉ ads := fun hm => by
  obtain ⟨n, hn, e⟩ := List.getElem_of_mem hm
  obtain ⟨c, _, hc⟩ := g.cellA (n := n) (a := p) (by simp [hn, e])
  obtain ⟨o, ho, _⟩ := hc.some
  rw [hp] at ho; cases ho
/-- a new thing that is no cell -/
theorem Gd.new (g : Gd Z H ads s) (hp : H p = none) : Gd Z (upd H p o) ads s :=
  ⟨g.len, g.nd, fun n a c ha hc => by
    have k := g.ok n a c ha hc
    obtain ⟨u, hu, _⟩ := k.some
    exact k.mono (Xt.upd (soft_none hp)) (upd_ne (ne_of_none hu hp))⟩
/-- a new cell -/
theorem Gd.alloc (g : Gd Z H ads s) (hp : H p = none) (h : CellOk Z (upd H p o) (ads ++ [p]) p c) : Gd Z (upd H p o) (ads ++ [p]) (s ++ [c]) := by
  refine ⟨by simp [g.len], ?_, fun n a c' ha hc => ?_⟩
  · rw [List.nodup_append]
    refine ⟨g.nd, by simp, fun x hx y hy => ?_⟩
    simp at hy; subst hy
    intro e; subst e
    exact g.notin hp hx
  · by_cases hn : n < ads.length
    · rw [List.getElem?_append_left hn] at ha
      rw [List.getElem?_append_left (g.len ▸ hn)] at hc
      have k := g.ok n a c' ha hc
      obtain ⟨u, hu, _⟩ := k.some
      exact k.mono (Xt.updNew (soft_none hp)) (upd_ne (ne_of_none hu hp))
    · rw [List.getElem?_append_right (by omega)] at ha
      rw [List.getElem?_append_right (by have := g.len; omega)] at hc
      have h0 : n - ads.length = 0 := by
        have := (List.getElem?_eq_some_iff.mp ha).1
        simp at this; omega
      have h1 : n - s.length = 0 := by rw [← g.len]; exact h0
      rw [h0] at ha; rw [h1] at hc
      simp at ha hc
      subst ha; subst hc
      exact h
/-- a cell is changed -/
theorem Gd.put (g : Gd Z H ads s) {n : Nat} (ha : ads[n]? = some a) (h : CellOk Z (upd H a o) ads a c) : Gd Z (upd H a o) ads (s.set n c) ∧ Soft (H a) := by
  obtain ⟨c0, h0, k0⟩ := g.cellA ha
  obtain ⟨u, hu, su⟩ := k0.some
  have sa : Soft (H a) := by rw [hu]; exact su
  refine ⟨⟨by simp [g.len], g.nd, fun m b c' hb hc => ?_⟩, sa⟩
  by_cases hm : n = m
  · subst hm
    rw [ha] at hb; cases hb
    rw [List.getElem?_set_self (List.getElem?_eq_some_iff.mp h0).1] at hc
    cases hc
    exact h
  · rw [List.getElem?_set_ne hm] at hc
    have k := g.ok m b c' hb hc
    refine k.mono (Xt.upd sa) (upd_ne fun e => ?_)
    subst e
    exact hm ((List.getElem?_inj (List.getElem?_eq_some_iff.mp ha).1 g.nd).mp (ha.trans hb.symm))
end

/-! ### exceptions, slots -/
def XRep (Z : SC) (H : Hp) (ads : List Addr) (c : Value) (x : Option Addr) (e : Exn) : Prop :=
  ∃ C, Z.cls e.cls = some C ∧ c = .ref C ∧ ∃ d fs, x = some d ∧ H d = some (.xd fs) ∧ Rpf Z.K H ads fs e.fs
structure Xc where
  a : Addr
  c : Value
  x : Option Addr
  e : Exn
def XcOk (Z : SC) (H : Hp) (ads : List Addr) : Option Xc → Prop
  | none => True
  | some k => XRep Z H ads k.c k.x k.e
def RpS (K : PySem.W.Frag) (H : Hp) (ads : List Addr) (xc : Option Xc) : Option V → Sl → Prop
  | _, .un => True
  | some v, .d x => Rp K H ads v x
  | some v, .exn e => ∃ k, xc = some k ∧ v = .ref k.a ∧ k.e = e
  | none, _ => False
def RpEn (K : PySem.W.Frag) (H : Hp) (ads : List Addr) (xc : Option Xc) (σ : L2.St) (ρ : En) : Prop :=
  σ.length = ρ.length ∧ ∀ (i : Nat) (o : Option V) (l : Sl), σ[i]? = some o → ρ[i]? = some l → RpS K H ads xc o l
section
variable {Z : SC} {K : PySem.W.Frag} {H H' H1 H2 : Hp} {ads ads' ads1 ads2 : List Addr} {s : Sto} {xc : Option Xc} {σ : L2.St} {ρ : En}
theorem XRep.mono (x : Xt Z.K H ads H' ads') {c : Value} {d : Option Addr} {e : Exn} (h : XRep Z H ads c d e) : XRep Z H' ads' c d e := by
  obtain ⟨C, h1, h2, d, fs, h3, h4, h5, h6⟩ := h
  exact ⟨C, h1, h2, d, fs, h3, x.xd _ _ h4, h5, h6.mono x⟩
theorem XcOk.mono (x : Xt Z.K H ads H' ads') (h : XcOk Z H ads xc) : XcOk Z H' ads' xc := by
  cases xc with
  | none => trivial
  | some k => exact XRep.mono x h
theorem RpS.mono (x : Xt K H ads H' ads') {o : Option V} {l : Sl} (h : RpS K H ads xc o l) : RpS K H' ads' xc o l := by
  cases l with
  | un => cases o <;> trivial
  | d y => cases o with
    | none => exact h
    | some v => exact Rp.mono x h
  | exn => cases o with
    | none => exact h
    | some v => exact h
theorem RpEn.mono (x : Xt K H ads H' ads') (h : RpEn K H ads xc σ ρ) : RpEn K H' ads' xc σ ρ := ⟨h.1, fun i o l a b => (h.2 i o l a b).mono x⟩
theorem RpEn.get (h : RpEn K H ads xc σ ρ) {i : Nat} {d : D} (e : ρ[i]? = some (.d d)) : ∃ v, σ[i]? = some (some v) ∧ Rp K H ads v d := by
  have hi := (List.getElem?_eq_some_iff.mp e).1
  rw [← h.1] at hi
  have k := h.2 i σ[i] _ (by simp [hi]) e
  cases q : σ[i] with
  | none => rw [q] at k; exact k.elim
  | some v => rw [q] at k; exact ⟨v, by simp [hi, q], k⟩
theorem RpEn.set (h : RpEn K H ads xc σ ρ) {i : Nat} {o : Option V} {l : Sl} (r : RpS K H ads xc o l) : RpEn K H ads xc (σ.set i o) (ρ.set i l) := by
  refine ⟨by simp [h.1], fun j o' l' a b => ?_⟩
  by_cases hj : i = j
  · subst hj
    have hi : i < σ.length := by
      have := (List.getElem?_eq_some_iff.mp a).1
      simpa using this
    have hi' : i < ρ.length := by rw [← h.1]; exact hi
    rw [List.getElem?_set_self hi] at a
    rw [List.getElem?_set_self hi'] at b
    cases a; cases b
    exact r
  · rw [List.getElem?_set_ne hj] at a b
    exact h.2 j o' l' a b
end

/-! ### what is wanted behind -/
def PoE (Z : SC) (W : WX) (σ : L2.St) (H : Hp) (ads : List Addr) (Q : VK) : R D → Prop
  | .ok d s => ∀ v H' ads', Xt Z.K H ads H' ads' → Gd Z H' ads' s → Rp Z.K H' ads' v d → Q v H'
  | .ex e s => ∀ c x H' ads', Xt Z.K H ads H' ads' → Gd Z H' ads' s → XRep Z H' ads' c x e → W c x σ H'
  | .no => False
def PoA (Z : SC) (W : WX) (σ : L2.St) (H : Hp) (ads : List Addr) (Q : List V → Hp → Prop) : R (List D) → Prop
  | .ok ds s => ∀ vs H' ads', Xt Z.K H ads H' ads' → Gd Z H' ads' s → Rps Z.K H' ads' vs ds → Q vs H'
  | .ex e s => ∀ c x H' ads', Xt Z.K H ads H' ads' → Gd Z H' ads' s → XRep Z H' ads' c x e → W c x σ H'
  | .no => False
/-- a thing that is no value of the heap: a truth, an optional number -/
def PoT {α : Type} (Z : SC) (W : WX) (σ : L2.St) (H : Hp) (ads : List Addr) (Q : α → Hp → Prop) : R α → Prop
  | .ok b s => ∀ H' ads', Xt Z.K H ads H' ads' → Gd Z H' ads' s → Q b H'
  | .ex e s => ∀ c x H' ads', Xt Z.K H ads H' ads' → Gd Z H' ads' s → XRep Z H' ads' c x e → W c x σ H'
  | .no => False
def PoS (Z : SC) (xc : Option Xc) (W : WX) (Dn : Ends) (H : Hp) (ads : List Addr) : RS → Prop
  | .nx ρ s => ∀ σ' H' ads', Xt Z.K H ads H' ads' → Gd Z H' ads' s → RpEn Z.K H' ads' xc σ' ρ → Dn.nx σ' H'
  | .rt d s => ∀ v H' ads', Xt Z.K H ads H' ads' → Gd Z H' ads' s → Rp Z.K H' ads' v d → Dn.rt v H'
  | .bk ρ s => ∀ σ' H' ads', Xt Z.K H ads H' ads' → Gd Z H' ads' s → RpEn Z.K H' ads' xc σ' ρ → Dn.bk σ' H'
  | .ct ρ s => ∀ σ' H' ads', Xt Z.K H ads H' ads' → Gd Z H' ads' s → RpEn Z.K H' ads' xc σ' ρ → Dn.ct σ' H'
  | .ex e ρ s => ∀ c x σ' H' ads', Xt Z.K H ads H' ads' → Gd Z H' ads' s → XRep Z H' ads' c x e → RpEn Z.K H' ads' xc σ' ρ → W c x σ' H'
  | .no => False
structure Std (Z : SC) (xc : Option Xc) (σ : L2.St) (H : Hp) (ads : List Addr) (ρ : En) (s : Sto) : Prop where
  g : Gd Z H ads s
  x : XcOk Z H ads xc
  r : RpEn Z.K H ads xc σ ρ
def dE (Z : SC) (xc : Option Xc) (W : WX) (f : EF) : TE := fun σ H Q => ∃ ads ρ s, Std Z xc σ H ads ρ s ∧ PoE Z W σ H ads Q (f ρ s)
def dA (Z : SC) (xc : Option Xc) (W : WX) (f : AF) : TA := fun σ H Q => ∃ ads ρ s, Std Z xc σ H ads ρ s ∧ PoA Z W σ H ads Q (f ρ s)
def dT (Z : SC) (xc : Option Xc) (W : WX) (f : TF) : TT := fun σ H Q => ∃ ads ρ s, Std Z xc σ H ads ρ s ∧ PoT Z W σ H ads Q (f ρ s)
def dO (Z : SC) (xc : Option Xc) (W : WX) (f : OF) : TO := fun σ H Q => ∃ ads ρ s, Std Z xc σ H ads ρ s ∧ PoT Z W σ H ads Q (f ρ s)
def dS (Z : SC) (xc : Option Xc) (W : WX) (f : SF) : TS := fun Dn σ H => ∃ ads ρ s, Std Z xc σ H ads ρ s ∧ PoS Z xc W Dn H ads (f ρ s)
section
variable {Z : SC} {xc : Option Xc} {W : WX} {H H' H1 H2 : Hp} {ads ads' ads1 ads2 : List Addr} {s s' : Sto} {σ σ' : L2.St} {ρ ρ' : En}
theorem Std.mono (h : Std Z xc σ H ads ρ s) (x : Xt Z.K H ads H' ads') (g : Gd Z H' ads' s') : Std Z xc σ H' ads' ρ s' := ⟨g, h.x.mono x, h.r.mono x⟩
theorem Std.monoS (h : Std Z xc σ H ads ρ s) (x : Xt Z.K H ads H' ads') (g : Gd Z H' ads' s') (r : RpEn Z.K H' ads' xc σ' ρ') : Std Z xc σ' H' ads' ρ' s' := ⟨g, h.x.mono x, r⟩
theorem PoE.mono (x : Xt Z.K H ads H' ads') {Q : VK} {r : R D} (h : PoE Z W σ H ads Q r) : PoE Z W σ H' ads' Q r := by
  cases r with
  | ok d s => exact fun v H2 ads2 x2 => h v H2 ads2 (x.trans x2)
  | ex e s => exact fun c y H2 ads2 x2 => h c y H2 ads2 (x.trans x2)
  | no => exact h
theorem PoA.mono (x : Xt Z.K H ads H' ads') {Q : List V → Hp → Prop} {r : R (List D)} (h : PoA Z W σ H ads Q r) : PoA Z W σ H' ads' Q r := by
  cases r with
  | ok d s => exact fun v H2 ads2 x2 => h v H2 ads2 (x.trans x2)
  | ex e s => exact fun c y H2 ads2 x2 => h c y H2 ads2 (x.trans x2)
  | no => exact h
theorem PoT.mono {α : Type} (x : Xt Z.K H ads H' ads') {Q : α → Hp → Prop} {r : R α} (h : PoT Z W σ H ads Q r) : PoT Z W σ H' ads' Q r := by
  cases r with
  | ok d s => exact fun H2 ads2 x2 => h H2 ads2 (x.trans x2)
  | ex e s => exact fun c y H2 ads2 x2 => h c y H2 ads2 (x.trans x2)
  | no => exact h
theorem PoS.mono (x : Xt Z.K H ads H' ads') {Dn : Ends} {r : RS} (h : PoS Z xc W Dn H ads r) : PoS Z xc W Dn H' ads' r := by
  cases r with
  | nx ρ s => exact fun v H2 ads2 x2 => h v H2 ads2 (x.trans x2)
  | rt d s => exact fun v H2 ads2 x2 => h v H2 ads2 (x.trans x2)
  | bk ρ s => exact fun v H2 ads2 x2 => h v H2 ads2 (x.trans x2)
  | ct ρ s => exact fun v H2 ads2 x2 => h v H2 ads2 (x.trans x2)
  | ex e ρ s => exact fun c y σ2 H2 ads2 x2 => h c y σ2 H2 ads2 (x.trans x2)
  | no => exact h
/-- a value stands -/
theorem PoE.ok {Q : VK} {d : D} (h : PoE Z W σ H ads Q (.ok d s)) (g : Gd Z H ads s) {v : V} (r : Rp Z.K H ads v d) : Q v H := h v H ads Xt.refl g r
theorem PoE.ok' {Q : VK} {d : D} (h : PoE Z W σ H ads Q (.ok d s)) (x : Xt Z.K H ads H' ads') (g : Gd Z H' ads' s) {v : V} (r : Rp Z.K H' ads' v d) : Q v H' := h v H' ads' x g r
end
section
variable {X : Cx}
theorem PE_imp {e : Expr} {t t' : TE} (h : PE X e t) (k : ∀ σ H Q, t' σ H Q → t σ H Q) : PE X e t' := ⟨fun pins s σ H Q I q => h.run pins s σ H Q I (k σ H Q q)⟩
theorem PT_imp {e : Expr} {t t' : TT} (h : PT X e t) (k : ∀ σ H Q, t' σ H Q → t σ H Q) : PT X e t' := ⟨fun pins s σ H Q I q => h.run pins s σ H Q I (k σ H Q q)⟩
theorem PW_imp {e : Expr} {t t' : TT} (h : PW X e t) (k : ∀ σ H Q, t' σ H Q → t σ H Q) : PW X e t' := ⟨fun w pins s σ H Q I q => h.run w pins s σ H Q I (k σ H Q q)⟩
theorem PA_imp {e : List Expr} {t t' : TA} (h : PA X e t) (k : ∀ σ H Q, t' σ H Q → t σ H Q) : PA X e t' := ⟨fun p pins s σ H Q I q => h.run p pins s σ H Q I (k σ H Q q)⟩
theorem PS_imp {e : Stmt} {t t' : TS} (h : PS X e t) (k : ∀ Dn σ H, t' Dn σ H → t Dn σ H) : PS X e t' := ⟨fun pins s σ H Dn I q => h.run pins s σ H Dn I (k Dn σ H q)⟩
theorem PSs_imp {e : List Stmt} {t t' : TS} (h : PSs X e t) (k : ∀ Dn σ H, t' Dn σ H → t Dn σ H) : PSs X e t' := ⟨fun pins s σ H Dn I q => h.run pins s σ H Dn I (k Dn σ H q)⟩
end
end DL

/-! DL2: expressions. -/
namespace DL
open PySem PySem.Spec PyProof.Rows L2

/-! ### binding -/
section
variable {Z : SC} {xc : Option Xc} {W : WX} {H H' H1 H2 : Hp} {ads ads' ads1 ads2 : List Addr} {s s' : Sto} {σ σ' : L2.St} {ρ ρ' : En}
theorem bindE {β : Type} {P : R β → Prop} {r : R D} {k : D → Sto → R β} {Q' : VK}
    (hex : ∀ e s, P (.ex e s) → ∀ c x H' ads', Xt Z.K H ads H' ads' → Gd Z H' ads' s → XRep Z H' ads' c x e → W c x σ H') (hno : P .no → False)
    (h : P (r.bind k)) (hk : ∀ d s1 v H' ads', Xt Z.K H ads H' ads' → Gd Z H' ads' s1 → Rp Z.K H' ads' v d → P (k d s1) → Q' v H') : PoE Z W σ H ads Q' r := by
  cases r with
  | ok d s => exact fun v H' ads' x g q => hk d s v H' ads' x g q h
  | ex e s => exact hex e s h
  | no => exact hno h
theorem bindA {β : Type} {P : R β → Prop} {r : R (List D)} {k : List D → Sto → R β} {Q' : List V → Hp → Prop}
    (hex : ∀ e s, P (.ex e s) → ∀ c x H' ads', Xt Z.K H ads H' ads' → Gd Z H' ads' s → XRep Z H' ads' c x e → W c x σ H') (hno : P .no → False)
    (h : P (r.bind k)) (hk : ∀ d s1 v H' ads', Xt Z.K H ads H' ads' → Gd Z H' ads' s1 → Rps Z.K H' ads' v d → P (k d s1) → Q' v H') : PoA Z W σ H ads Q' r := by
  cases r with
  | ok d s => exact fun v H' ads' x g q => hk d s v H' ads' x g q h
  | ex e s => exact hex e s h
  | no => exact hno h
theorem bindT {α β : Type} {P : R β → Prop} {r : R α} {k : α → Sto → R β} {Q' : α → Hp → Prop}
    (hex : ∀ e s, P (.ex e s) → ∀ c x H' ads', Xt Z.K H ads H' ads' → Gd Z H' ads' s → XRep Z H' ads' c x e → W c x σ H') (hno : P .no → False)
    (h : P (r.bind k)) (hk : ∀ d s1 H' ads', Xt Z.K H ads H' ads' → Gd Z H' ads' s1 → P (k d s1) → Q' d H') : PoT Z W σ H ads Q' r := by
  cases r with
  | ok d s => exact fun H' ads' x g => hk d s H' ads' x g h
  | ex e s => exact hex e s h
  | no => exact hno h
theorem bEE {r : R D} {k : D → Sto → R D} {Q Q' : VK} (h : PoE Z W σ H ads Q (r.bind k))
    (hk : ∀ d s1 v H' ads', Xt Z.K H ads H' ads' → Gd Z H' ads' s1 → Rp Z.K H' ads' v d → PoE Z W σ H' ads' Q (k d s1) → Q' v H') : PoE Z W σ H ads Q' r :=
  bindE (P := PoE Z W σ H ads Q) (fun _ _ h => h) (fun h => h) h fun d s1 v H' ads' x g r h => hk d s1 v H' ads' x g r (h.mono x)
theorem bAE {r : R (List D)} {k : List D → Sto → R D} {Q : VK} {Q' : List V → Hp → Prop} (h : PoE Z W σ H ads Q (r.bind k))
    (hk : ∀ d s1 v H' ads', Xt Z.K H ads H' ads' → Gd Z H' ads' s1 → Rps Z.K H' ads' v d → PoE Z W σ H' ads' Q (k d s1) → Q' v H') : PoA Z W σ H ads Q' r :=
  bindA (P := PoE Z W σ H ads Q) (fun _ _ h => h) (fun h => h) h fun d s1 v H' ads' x g r h => hk d s1 v H' ads' x g r (h.mono x)
theorem bTE {α : Type} {r : R α} {k : α → Sto → R D} {Q : VK} {Q' : α → Hp → Prop} (h : PoE Z W σ H ads Q (r.bind k))
    (hk : ∀ d s1 H' ads', Xt Z.K H ads H' ads' → Gd Z H' ads' s1 → PoE Z W σ H' ads' Q (k d s1) → Q' d H') : PoT Z W σ H ads Q' r :=
  bindT (P := PoE Z W σ H ads Q) (fun _ _ h => h) (fun h => h) h fun d s1 H' ads' x g h => hk d s1 H' ads' x g (h.mono x)
theorem bEA {r : R D} {k : D → Sto → R (List D)} {Q : List V → Hp → Prop} {Q' : VK} (h : PoA Z W σ H ads Q (r.bind k))
    (hk : ∀ d s1 v H' ads', Xt Z.K H ads H' ads' → Gd Z H' ads' s1 → Rp Z.K H' ads' v d → PoA Z W σ H' ads' Q (k d s1) → Q' v H') : PoE Z W σ H ads Q' r :=
  bindE (P := PoA Z W σ H ads Q) (fun _ _ h => h) (fun h => h) h fun d s1 v H' ads' x g r h => hk d s1 v H' ads' x g r (h.mono x)
theorem bAA {r : R (List D)} {k : List D → Sto → R (List D)} {Q Q' : List V → Hp → Prop} (h : PoA Z W σ H ads Q (r.bind k))
    (hk : ∀ d s1 v H' ads', Xt Z.K H ads H' ads' → Gd Z H' ads' s1 → Rps Z.K H' ads' v d → PoA Z W σ H' ads' Q (k d s1) → Q' v H') : PoA Z W σ H ads Q' r :=
  bindA (P := PoA Z W σ H ads Q) (fun _ _ h => h) (fun h => h) h fun d s1 v H' ads' x g r h => hk d s1 v H' ads' x g r (h.mono x)
theorem bET {α : Type} {r : R D} {k : D → Sto → R α} {Q : α → Hp → Prop} {Q' : VK} (h : PoT Z W σ H ads Q (r.bind k))
    (hk : ∀ d s1 v H' ads', Xt Z.K H ads H' ads' → Gd Z H' ads' s1 → Rp Z.K H' ads' v d → PoT Z W σ H' ads' Q (k d s1) → Q' v H') : PoE Z W σ H ads Q' r :=
  bindE (P := PoT Z W σ H ads Q) (fun _ _ h => h) (fun h => h) h fun d s1 v H' ads' x g r h => hk d s1 v H' ads' x g r (h.mono x)
theorem bTT {α β : Type} {r : R α} {k : α → Sto → R β} {Q : β → Hp → Prop} {Q' : α → Hp → Prop} (h : PoT Z W σ H ads Q (r.bind k))
    (hk : ∀ d s1 H' ads', Xt Z.K H ads H' ads' → Gd Z H' ads' s1 → PoT Z W σ H' ads' Q (k d s1) → Q' d H') : PoT Z W σ H ads Q' r :=
  bindT (P := PoT Z W σ H ads Q) (fun _ _ h => h) (fun h => h) h fun d s1 H' ads' x g h => hk d s1 H' ads' x g (h.mono x)
end

/-! ### what terms do -/
def eVar (i : Nat) : EF := fun ρ s => match ρ[i]? with | some (.d d) => .ok d s | _ => .no
def eC (d : D) : EF := fun _ s => .ok d s
def eUn (op : D → Sto → R D) (a : EF) : EF := fun ρ s => (a ρ s).bind op
def eBin (op : D → D → Sto → R D) (a b : EF) : EF := fun ρ s => (a ρ s).bind fun x s1 => (b ρ s1).bind fun y s2 => op x y s2
def aNil : AF := fun _ s => .ok [] s
def aCons (a : EF) (as : AF) : AF := fun ρ s => (a ρ s).bind fun x s1 => (as ρ s1).bind fun xs s2 => .ok (x :: xs) s2
def eApp (op : List D → Sto → R D) (as : AF) : EF := fun ρ s => (as ρ s).bind op
def eMeth (op : D → List D → Sto → R D) (o : EF) (as : AF) : EF := fun ρ s => (o ρ s).bind fun x s1 => (as ρ s1).bind fun xs s2 => op x xs s2
def tTru (op : D → Sto → R Bool) (a : EF) : TF := fun ρ s => (a ρ s).bind op
def tAndF (a b : TF) : TF := fun ρ s => (a ρ s).bind fun x s1 => if x then b ρ s1 else .ok false s1
def tOrF (a b : TF) : TF := fun ρ s => (a ρ s).bind fun x s1 => if x then .ok true s1 else b ρ s1
def tNotF (a : TF) : TF := fun ρ s => (a ρ s).bind fun x s1 => .ok (!x) s1
def eIf (c : TF) (a b : EF) : EF := fun ρ s => (c ρ s).bind fun x s1 => if x then a ρ s1 else b ρ s1
/-- truth -/
def truD : D → Sto → R Bool
  | .non, s => .ok false s
  | .bl b, s => .ok b s
  | .int i, s => .ok (i != 0) s
  | .str x, s => .ok ((x.length : Int) != 0) s
  | .tup xs, s => .ok (!xs.isEmpty) s
  | .fls xs, s => .ok (!xs.isEmpty) s
  | .loc n, s => match s[n]? with
    | some (.lst xs) => .ok (!xs.isEmpty) s
    | some (.dK xs) => .ok (!xs.isEmpty) s
    | _ => .no
def eAnd (a b : EF) : EF := fun ρ s => (a ρ s).bind fun x s1 => (truD x s1).bind fun k s2 => if k then b ρ s2 else .ok x s2
def eOr (a b : EF) : EF := fun ρ s => (a ρ s).bind fun x s1 => (truD x s1).bind fun k s2 => if k then .ok x s2 else b ρ s2
def eNot (a : EF) : EF := fun ρ s => (a ρ s).bind fun x s1 => (truD x s1).bind fun k s2 => .ok (.bl (!k)) s2
def tupD (xs : List D) (s : Sto) : R D := if xs.length ≤ 100000 then .ok (.tup xs) s else .no
def lstD (xs : List D) (s : Sto) : R D := if xs.length ≤ 100000 then .ok (.loc s.length) (s ++ [.lst xs]) else .no
def eChain (o1 o2 : D → D → Sto → R D) (a b c : EF) : EF := fun ρ s => (a ρ s).bind fun x s1 => (b ρ s1).bind fun y s2 => (o1 x y s2).bind fun z s3 =>
  match z with
  | .bl true => (c ρ s3).bind fun w s4 => o2 y w s4
  | .bl false => .ok (.bl false) s3
  | _ => .no

/-! ### by values -/
def OpD (Z : SC) (r : R2) (op : D → D → Sto → R D) : Prop := ∀ {W : WX} {σ : L2.St} {H : Hp} {ads : List Addr} {s : Sto} {x y : V} {d e : D} {Q : VK}, Gd Z H ads s → Rp Z.K H ads x d → Rp Z.K H ads y e → PoE Z W σ H ads Q (op d e s) → r x y H Q
def UnD (Z : SC) (r : V → Hp → VK → Prop) (op : D → Sto → R D) : Prop := ∀ {W : WX} {σ : L2.St} {H : Hp} {ads : List Addr} {s : Sto} {x : V} {d : D} {Q : VK}, Gd Z H ads s → Rp Z.K H ads x d → PoE Z W σ H ads Q (op d s) → r x H Q
def CallD (Z : SC) (r : List V → Hp → VK → Prop) (op : List D → Sto → R D) : Prop := ∀ {W : WX} {σ : L2.St} {H : Hp} {ads : List Addr} {s : Sto} {xs : List V} {ds : List D} {Q : VK}, Gd Z H ads s → Rps Z.K H ads xs ds → PoE Z W σ H ads Q (op ds s) → r xs H Q
def MtD (Z : SC) (T : String) (r : V → List V → Hp → VK → Prop) (op : D → List D → Sto → R D) : Prop := ∀ {W : WX} {σ : L2.St} {H : Hp} {ads : List Addr} {s : Sto} {x : V} {xs : List V} {d : D} {ds : List D} {Q : VK}, Gd Z H ads s → Rp Z.K H ads x d → Rps Z.K H ads xs ds → PoE Z W σ H ads Q (op d ds s) → r x xs H Q
theorem OpD.or {Z : SC} {r r' : R2} {f g : D → D → Sto → R D} {c : D → D → Bool} (h : OpD Z r f) (h' : OpD Z r' g) : OpD Z (fun x y H Q => r x y H Q ∨ r' x y H Q) (fun d e s => if c d e then f d e s else g d e s) := fun {W σ H ads s x y d e Q} gd rx ry q => by
  by_cases hc : c d e = true
  · simp only [hc, if_true] at q
    exact .inl (h gd rx ry q)
  · simp only [hc, if_false] at q
    exact .inr (h' gd rx ry q)

section
variable {X : Cx} {Z : SC} {xc : Option Xc} {W : WX} {a b c : Expr} {fa fb fc : EF} {pos : Pos}
theorem d_var (i : Nat) {x : Str} {pos : Pos} (hN : X.N[i]? = some x := by rfl) (hv : Vis X.env.scope x := by first | exact Or.inl rfl | exact Or.inr (Or.inl rfl) | exact Or.inr (Or.inr rfl)) (hd : (x == ("__debug__" : Str)) = false := by decide)
    (hcd : (x == ("__classdict__" : Str)) = false := by decide) : PE X (.Name x pos) (dE Z xc W (eVar i)) :=
  PE_imp (pe_var (i := i) hN hv hd hcd) fun σ H Q ⟨ads, ρ, s, t, h⟩ => by
    unfold eVar at h
    cases e : ρ[i]? with
    | none => rw [e] at h; exact h.elim
    | some l =>
      rw [e] at h
      cases l with
      | un => exact h.elim
      | exn => exact h.elim
      | d y =>
        obtain ⟨v, hv, rv⟩ := t.r.get e
        exact ⟨v, hv, h.ok t.g rv⟩
theorem d_const {e : Expr} {v : V} {d : D} (h : PE X e (tC v)) (r : ∀ H ads, Rp Z.K H ads v d) : PE X e (dE Z xc W (eC d)) :=
  PE_imp h fun σ H Q ⟨ads, ρ, s, t, h⟩ => h.ok t.g (r H ads)
theorem d_int {i : Int} {j} : PE X (.Constant (.int i) j pos) (dE Z xc W (eC (.int i))) := d_const pe_int fun _ _ => .int i
theorem d_bl {i : Bool} {j} : PE X (.Constant (.bool i) j pos) (dE Z xc W (eC (.bl i))) := d_const pe_bl fun _ _ => .bl i
theorem d_non {j} : PE X (.Constant .none j pos) (dE Z xc W (eC .non)) := d_const pe_non fun _ _ => .non
theorem d_str {x : Str} {j} (h : x.length ≤ sizeLine := by decide +kernel) : PE X (.Constant (.str x) j pos) (dE Z xc W (eC (.str x))) := d_const pe_str fun _ _ => .str h
/-- a constant of the module -/
theorem d_glob {x : Str} {v : V} {u : Value} {d : D} (hm : X.mg x = some u) (rv : RelV v u) (r : ∀ H ads, Rp Z.K H ads v d) (hg : Gl X x := by rfl) (hd : (x == ("__debug__" : Str)) = false := by decide) : PE X (.Name x pos) (dE Z xc W (eC d)) :=
  d_const (pe_glob hg hm rv hd) r
theorem op_bin {r : R2} {op : D → D → Sto → R D} (hd : OpD Z r op) {σ : L2.St} {H : Hp} {Q : VK} (h : dE Z xc W (eBin op fa fb) σ H Q) : tOp r (dE Z xc W fa) (dE Z xc W fb) σ H Q := by
  obtain ⟨ads, ρ, s, t, h⟩ := h
  refine ⟨ads, ρ, s, t, bEE h fun d s1 x H1 ads1 x1 g1 r1 h1 => ?_⟩
  refine ⟨ads1, ρ, s1, t.mono x1 g1, bEE h1 fun e s2 y H2 ads2 x2 g2 r2 h2 => ?_⟩
  exact hd g2 (r1.mono x2) r2 h2
theorem d_op {op : Operator} {r : R2} {f : D → D → Sto → R D} (ho : OpR X (binaryOp op) r) (hd : OpD Z r f) (ha : PE X a (dE Z xc W fa)) (hb : PE X b (dE Z xc W fb)) : PE X (.BinOp a op b pos) (dE Z xc W (eBin f fa fb)) :=
  PE_imp (pe_op ho ha hb) fun _ _ _ h => op_bin hd h
theorem d_cmp {op : CmpOp} {r : R2} {f : D → D → Sto → R D} (ho : OpR X (compareOp op) r) (hd : OpD Z r f) (ha : PE X a (dE Z xc W fa)) (hb : PE X b (dE Z xc W fb)) (hm : behindInMarks op b = false := by rfl) : PE X (.Compare a [op] [b] pos) (dE Z xc W (eBin f fa fb)) :=
  PE_imp (pe_cmpR ho ha hb hm) fun _ _ _ h => op_bin hd h
theorem d_un {op : UnaryOp} {r : V → Hp → VK → Prop} {f : D → Sto → R D} (ho : UnR X (unaryOp op) r) (hd : UnD Z r f) (ha : PE X a (dE Z xc W fa)) : PE X (.UnaryOp op a pos) (dE Z xc W (eUn f fa)) :=
  PE_imp (pe_un ho ha) fun σ H Q ⟨ads, ρ, s, t, h⟩ => ⟨ads, ρ, s, t, bEE h fun d s1 x H1 ads1 x1 g1 r1 h1 => hd g1 r1 h1⟩
theorem tru_ok (g : Gd Z H ads s) {v : V} {d : D} (r : Rp Z.K H ads v d) {σ : L2.St} {Q : Bool → Hp → Prop} (h : PoT Z W σ H ads Q (truD d s)) : ∃ k, TruV Z.K v H k ∧ Q k H := by
  cases r with
  | non => exact ⟨_, rfl, h H ads Xt.refl g⟩
  | bl b => exact ⟨_, rfl, h H ads Xt.refl g⟩
  | int i => exact ⟨_, rfl, h H ads Xt.refl g⟩
  | str z => exact ⟨_, ⟨z, rfl⟩, h H ads Xt.refl g⟩
  | @tup a xs ds q t z =>
    refine ⟨_, .inr (.inl ⟨xs, q, ?_⟩), h H ads Xt.refl g⟩
    cases t <;> rfl
  | @fls a xs ds q t z =>
    refine ⟨_, .inl ⟨xs, q.sq, ?_⟩, h H ads Xt.refl g⟩
    cases t <;> rfl
  | @loc a n q =>
    obtain ⟨c, hc, k⟩ := g.cellA q
    simp only [truD, hc] at h
    cases c with
    | lst ds =>
      obtain ⟨xs, hx, t, z⟩ := k
      refine ⟨_, .inl ⟨xs, SqL.of hx, ?_⟩, h H ads Xt.refl g⟩
      cases t <;> rfl
    | dK ds =>
      obtain ⟨xs, hx, t, z⟩ := k
      refine ⟨_, .inr (.inr ⟨xs, hx, ?_⟩), h H ads Xt.refl g⟩
      have e := congrArg List.length t.1
      simp at e
      cases xs <;> cases ds <;> first | rfl | simp at e
    | ins c fs => exact h.elim
/-- any plain expression as a test -/
theorem d_test (ha : PE X a (dE Z xc W fa)) (hK : X.K = Z.K) (he : ∀ whole, isTrue a X.env whole = (do let v ← whole; standAt a.pos; holding [v] (truthy v)) := by intro _; rfl) : PT X a (dT Z xc W (tTru truD fa)) :=
  PT_imp (pt_truth ha he) fun σ H Q ⟨ads, ρ, s, t, h⟩ => ⟨ads, ρ, s, t, bET h fun d s1 x H1 ads1 x1 g1 r1 h1 => by rw [hK]; exact tru_ok g1 r1 h1⟩
/-- a comparison as a test -/
def blD : D → Sto → R Bool
  | .bl b, s => .ok b s
  | _, _ => .no
theorem bl_ok (g : Gd Z H ads s) {v : V} {d : D} (r : Rp Z.K H ads v d) {σ : L2.St} {Q : Bool → Hp → Prop} (h : PoT Z W σ H ads Q (blD d s)) : ∃ k, v = .bl k ∧ Q k H := by
  cases r with
  | bl b => exact ⟨_, rfl, h H ads Xt.refl g⟩
  | _ => exact h.elim
theorem d_tcmp {op : CmpOp} {r : R2} {f : D → D → Sto → R D} (ho : OpR X (compareOp op) r) (hd : OpD Z r f) (ha : PE X a (dE Z xc W fa)) (hb : PE X b (dE Z xc W fb)) (hm : behindInMarks op b = false := by rfl) : PT X (.Compare a [op] [b] pos) (dT Z xc W (tTru blD (eBin f fa fb))) :=
  PT_imp (pt_cmpR ho ha hb hm) fun σ H Q ⟨ads, ρ, s, t, h⟩ => op_bin (Q := fun x H' => ∃ k, x = .bl k ∧ Q k H') hd ⟨ads, ρ, s, t, bET h fun d s1 x H1 ads1 x1 g1 r1 h1 => bl_ok g1 r1 h1⟩
theorem op_chain {r1 r2 : R2} {o1 o2 : D → D → Sto → R D} (h1 : OpD Z r1 o1) (h2 : OpD Z r2 o2) {σ : L2.St} {H : Hp} {Q : VK} (h : dE Z xc W (eChain o1 o2 fa fb fc) σ H Q) : tChain r1 r2 (dE Z xc W fa) (dE Z xc W fb) (dE Z xc W fc) σ H Q := by
  obtain ⟨ads, ρ, s, t, h⟩ := h
  refine ⟨ads, ρ, s, t, bEE h fun d s1 x H1 ads1 x1 g1 r1 q1 => ?_⟩
  have t1 := t.mono x1 g1
  refine ⟨ads1, ρ, s1, t1, bEE q1 fun e s2 y H2 ads2 x2 g2 r2 q2 => ?_⟩
  have t2 := t1.mono x2 g2
  refine h1 (W := W) (σ := σ) g2 (r1.mono x2) r2 (bEE q2 fun z s3 v3 H3 ads3 x3 g3 r3 q3 => ?_)
  cases r3 with
  | bl k =>
    refine ⟨k, rfl, ?_⟩
    cases k with
    | true =>
      refine iteT ?_
      exact ⟨ads3, ρ, s3, t2.mono x3 g3, bEE q3 fun w s4 v4 H4 ads4 x4 g4 r4 q4 => h2 g4 ((r2.mono x3).mono x4) r4 q4⟩
    | false => exact iteF (q3.ok g3 (.bl false))
  | _ => exact q3.elim
theorem d_chain {o1 o2 : CmpOp} {r1 r2 : R2} {f1 f2 : D → D → Sto → R D} (h1 : OpR X (compareOp o1) r1) (k1 : OpD Z r1 f1) (h2 : OpR X (compareOp o2) r2) (k2 : OpD Z r2 f2)
    (ha : PE X a (dE Z xc W fa)) (hb : PE X b (dE Z xc W fb)) (hc : PE X c (dE Z xc W fc)) (hm : lastMarks [o1, o2] [b, c] = false := by with_unfolding_all rfl) : PE X (.Compare a [o1, o2] [b, c] pos) (dE Z xc W (eChain f1 f2 fa fb fc)) :=
  PE_imp (pe_chain h1 h2 ha hb hc hm) fun _ _ _ h => op_chain k1 k2 h
theorem d_tchain {o1 o2 : CmpOp} {r1 r2 : R2} {f1 f2 : D → D → Sto → R D} (h1 : OpR X (compareOp o1) r1) (k1 : OpD Z r1 f1) (h2 : OpR X (compareOp o2) r2) (k2 : OpD Z r2 f2)
    (ha : PE X a (dE Z xc W fa)) (hb : PE X b (dE Z xc W fb)) (hc : PE X c (dE Z xc W fc)) (hm : lastMarks [o1, o2] [b, c] = false := by with_unfolding_all rfl) : PT X (.Compare a [o1, o2] [b, c] pos) (dT Z xc W (tTru blD (eChain f1 f2 fa fb fc))) :=
  PT_imp (pt_chain h1 h2 ha hb hc hm) fun σ H Q ⟨ads, ρ, s, t, h⟩ => op_chain (Q := fun x H' => ∃ k, x = .bl k ∧ Q k H') k1 k2 ⟨ads, ρ, s, t, bET h fun d s1 x H1 ads1 x1 g1 r1 h1 => bl_ok g1 r1 h1⟩
/-! tests joined -/
theorem d_and {rest : List Expr} {ta tb : TF} (ha : PT X a (dT Z xc W ta)) (hb : PW X (.BoolOp .And (b :: rest) pos) (dT Z xc W tb)) : PW X (.BoolOp .And (a :: b :: rest) pos) (dT Z xc W (tAndF ta tb)) :=
  PW_imp (pw_and ha hb) fun σ H Q ⟨ads, ρ, s, t, h⟩ => ⟨ads, ρ, s, t, bTT h fun k s1 H1 ads1 x1 g1 h1 => by
    cases k with
    | true => exact iteT ⟨ads1, ρ, s1, t.mono x1 g1, h1⟩
    | false => exact iteF (h1 H1 ads1 Xt.refl g1)⟩
theorem d_or {rest : List Expr} {ta tb : TF} (ha : PT X a (dT Z xc W ta)) (hb : PW X (.BoolOp .Or (b :: rest) pos) (dT Z xc W tb)) : PW X (.BoolOp .Or (a :: b :: rest) pos) (dT Z xc W (tOrF ta tb)) :=
  PW_imp (pw_or ha hb) fun σ H Q ⟨ads, ρ, s, t, h⟩ => ⟨ads, ρ, s, t, bTT h fun k s1 H1 ads1 x1 g1 h1 => by
    cases k with
    | true => exact iteT (h1 H1 ads1 Xt.refl g1)
    | false => exact iteF ⟨ads1, ρ, s1, t.mono x1 g1, h1⟩⟩
theorem d_not {ta : TF} (ha : PT X a (dT Z xc W ta)) : PT X (.UnaryOp .Not a pos) (dT Z xc W (tNotF ta)) :=
  PT_imp (pt_not ha) fun σ H Q ⟨ads, ρ, s, t, h⟩ => ⟨ads, ρ, s, t, bTT h fun k s1 H1 ads1 x1 g1 h1 => h1 H1 ads1 Xt.refl g1⟩
theorem d_if {tc : TF} (hc : PT X c (dT Z xc W tc)) (ha : PE X a (dE Z xc W fa)) (hb : PE X b (dE Z xc W fb)) : PE X (.IfExp c a b pos) (dE Z xc W (eIf tc fa fb)) :=
  PE_imp (pe_ifExp hc ha hb) fun σ H Q ⟨ads, ρ, s, t, h⟩ => ⟨ads, ρ, s, t, bTE h fun k s1 H1 ads1 x1 g1 h1 => by
    cases k with
    | true => exact iteT ⟨ads1, ρ, s1, t.mono x1 g1, h1⟩
    | false => exact iteF ⟨ads1, ρ, s1, t.mono x1 g1, h1⟩⟩
/-! and, or, not as values -/
theorem d_andV {rest : List Expr} (ha : PE X a (dE Z xc W fa)) (hb : PE X (.BoolOp .And (b :: rest) pos) (dE Z xc W fb)) (hK : X.K = Z.K) : PE X (.BoolOp .And (a :: b :: rest) pos) (dE Z xc W (eAnd fa fb)) :=
  PE_imp (pe_andT ha hb) fun σ H Q ⟨ads, ρ, s, t, h⟩ => ⟨ads, ρ, s, t, bEE h fun d s1 x H1 ads1 x1 g1 r1 h1 => by
    rw [hK]
    have t1 := t.mono x1 g1
    refine tru_ok (Q := fun k H2 => if k = true then dE Z xc W fb σ H1 Q else Q x H1) g1 r1 (σ := σ) (W := W) ?_
    generalize hr : truD d s1 = r at h1
    cases r with
    | ok k s2 =>
      have es : s2 = s1 := by
        cases d <;> simp [truD] at hr <;> first | exact hr.2.symm | (split at hr <;> simp at hr <;> first | exact hr.2.symm | skip)
      subst es
      intro H2 ads2 x2 g2
      cases k with
      | true => exact iteT ⟨ads1, ρ, s2, t1, h1⟩
      | false => exact iteF (h1.ok g1 r1)
    | ex e s2 => exact h1
    | no => exact h1.elim⟩
theorem d_orV {rest : List Expr} (ha : PE X a (dE Z xc W fa)) (hb : PE X (.BoolOp .Or (b :: rest) pos) (dE Z xc W fb)) (hK : X.K = Z.K) : PE X (.BoolOp .Or (a :: b :: rest) pos) (dE Z xc W (eOr fa fb)) :=
  PE_imp (pe_orT ha hb) fun σ H Q ⟨ads, ρ, s, t, h⟩ => ⟨ads, ρ, s, t, bEE h fun d s1 x H1 ads1 x1 g1 r1 h1 => by
    rw [hK]
    have t1 := t.mono x1 g1
    refine tru_ok (Q := fun k H2 => if k = true then Q x H1 else dE Z xc W fb σ H1 Q) g1 r1 (σ := σ) (W := W) ?_
    generalize hr : truD d s1 = r at h1
    cases r with
    | ok k s2 =>
      have es : s2 = s1 := by
        cases d <;> simp [truD] at hr <;> first | exact hr.2.symm | (split at hr <;> simp at hr <;> first | exact hr.2.symm | skip)
      subst es
      intro H2 ads2 x2 g2
      cases k with
      | true => exact iteT (h1.ok g1 r1)
      | false => exact iteF ⟨ads1, ρ, s2, t1, h1⟩
    | ex e s2 => exact h1
    | no => exact h1.elim⟩
theorem d_notV (ha : PE X a (dE Z xc W fa)) (hK : X.K = Z.K) : PE X (.UnaryOp .Not a pos) (dE Z xc W (eNot fa)) :=
  PE_imp (pe_notT ha) fun σ H Q ⟨ads, ρ, s, t, h⟩ => ⟨ads, ρ, s, t, bEE h fun d s1 x H1 ads1 x1 g1 r1 h1 => by
    rw [hK]
    refine tru_ok (Q := fun k H2 => Q (.bl (!k)) H2) g1 r1 (σ := σ) (W := W) (bTE h1 fun k s2 H2 ads2 x2 g2 h2 => h2.ok g2 (.bl _))⟩
/-! argument lists, displays -/
theorem d_nil : PA X [] (dA Z xc W aNil) := PA_imp pa_nil fun σ H Q ⟨ads, ρ, s, t, h⟩ => h [] H ads Xt.refl t.g .nil
theorem d_cons {es : List Expr} {fs : AF} (ha : PE X a (dE Z xc W fa)) (hs : PA X es (dA Z xc W fs)) (hst : starEach (a :: es) X.env = (false, eval a X.env) :: starEach es X.env := by rfl) : PA X (a :: es) (dA Z xc W (aCons fa fs)) :=
  PA_imp (pa_cons ha hs hst) fun σ H Q ⟨ads, ρ, s, t, h⟩ => ⟨ads, ρ, s, t, bEA h fun d s1 x H1 ads1 x1 g1 r1 h1 =>
    ⟨ads1, ρ, s1, t.mono x1 g1, bAA h1 fun ds s2 xs H2 ads2 x2 g2 r2 h2 => h2 (x :: xs) H2 ads2 Xt.refl g2 (.cons (r1.mono x2) r2)⟩⟩
theorem le_size {n : Nat} (h : n ≤ 100000) : n ≤ sizeLine := Nat.le_trans h (by decide)
theorem new_tup (g : Gd Z H ads s) {xs : List V} {ds : List D} (r : Rps Z.K H ads xs ds) (hl : ds.length ≤ sizeLine) {σ : L2.St} {Q : VK} (h : PoE Z W σ H ads Q (.ok (.tup ds) s)) : ∀ p, H p = none → Q (.ref p) (upd H p (.tup xs)) := fun p hp => by
  have x1 : Xt Z.K H ads (upd H p (.tup xs)) ads := Xt.upd (soft_none hp)
  exact h.ok' x1 (g.new hp) (.tup (SqT.of upd_same) (r.mono x1) hl)
theorem new_lst (g : Gd Z H ads s) {xs : List V} {ds : List D} (r : Rps Z.K H ads xs ds) (hl : ds.length ≤ sizeLine) {σ : L2.St} {Q : VK} (h : PoE Z W σ H ads Q (.ok (.loc s.length) (s ++ [.lst ds]))) : ∀ p, H p = none → Q (.ref p) (upd H p (.lst xs)) := fun p hp => by
  have x1 : Xt Z.K H ads (upd H p (.lst xs)) (ads ++ [p]) := Xt.updNew (soft_none hp)
  exact h.ok' x1 (g.alloc hp ⟨xs, upd_same, r.mono x1, hl⟩) (.loc (by rw [← g.len]; simp))
theorem d_tup {es : List Expr} {fs : AF} {k} (hs : PA X es (dA Z xc W fs)) : PE X (.Tuple es k pos) (dE Z xc W (eApp tupD fs)) :=
  PE_imp (pe_tup hs) fun σ H Q ⟨ads, ρ, s, t, h⟩ => ⟨ads, ρ, s, t, bAE h fun ds s1 xs H1 ads1 x1 g1 r1 h1 => by
    unfold tupD at h1
    split at h1
    · exact ⟨by rw [r1.length]; exact le_size (by assumption), new_tup g1 r1 (le_size (by assumption)) h1⟩
    · exact h1.elim⟩
theorem d_lst {es : List Expr} {fs : AF} (hs : PA X es (dA Z xc W fs)) : PE X (.List es pos) (dE Z xc W (eApp lstD fs)) :=
  PE_imp (pe_lst hs) fun σ H Q ⟨ads, ρ, s, t, h⟩ => ⟨ads, ρ, s, t, bAE h fun ds s1 xs H1 ads1 x1 g1 r1 h1 => by
    unfold lstD at h1
    split at h1
    · exact ⟨by rw [r1.length]; exact le_size (by assumption), new_lst g1 r1 (le_size (by assumption)) h1⟩
    · exact h1.elim⟩
/-! calls of built-ins -/
theorem d_callB {x : Str} {p : Pos} {id : String} {e : Expr} {es : List Expr} {r : List V → Hp → VK → Prop} {f : List D → Sto → R D} {fs : AF} (hc : CallR X (.builtin id) r) (hd : CallD Z r f) (hm : X.mg x = none) (ha : PA X (e :: es) (dA Z xc W fs))
    (hg : Gl X x := by rfl) (hv : bootBuiltins x = some (.builtin id) := by decide +kernel) (hn : x ≠ "__name__" := by decide) (hdb : (x == ("__debug__" : Str)) = false := by decide)
    (he : starEach (e :: es) X.env = (false, eval e X.env) :: starEach es X.env := by rfl) (hpl : (backTo pos (starEach es X.env)).any (·.1) = false := by rfl) : PE X (.Call (.Name x p) (e :: es) [] pos) (dE Z xc W (eApp f fs)) :=
  PE_imp (pe_callB hc hg hm hv ha hn hdb he hpl) fun σ H Q ⟨ads, ρ, s, t, h⟩ => ⟨ads, ρ, s, t, bAE h fun ds s1 xs H1 ads1 x1 g1 r1 h1 => hd g1 r1 h1⟩
theorem d_callTy {x : Str} {p : Pos} {T : String} {e : Expr} {es : List Expr} {r : List V → Hp → VK → Prop} {f : List D → Sto → R D} {fs : AF} (hc : CallR X (.type T) r) (hd : CallD Z r f) (hm : X.mg x = none) (ha : PA X (e :: es) (dA Z xc W fs))
    (hg : Gl X x := by rfl) (hv : bootBuiltins x = some (.type T) := by decide +kernel) (hn : x ≠ "__name__" := by decide) (hdb : (x == ("__debug__" : Str)) = false := by decide)
    (he : starEach (e :: es) X.env = (false, eval e X.env) :: starEach es X.env := by rfl) (hpl : (backTo pos (starEach es X.env)).any (·.1) = false := by rfl) : PE X (.Call (.Name x p) (e :: es) [] pos) (dE Z xc W (eApp f fs)) :=
  PE_imp (pe_callTy hc hg hm hv ha hn hdb he hpl) fun σ H Q ⟨ads, ρ, s, t, h⟩ => ⟨ads, ρ, s, t, bAE h fun ds s1 xs H1 ads1 x1 g1 r1 h1 => hd g1 r1 h1⟩
theorem d_callBfun {x : Str} {p : Pos} {id : String} {e : Expr} {es : List Expr} {r : List V → Hp → VK → Prop} {f : List D → Sto → R D} {fs : AF} (hc : CallR X (.builtin id) r) (hd : CallD Z r f) (hm : X.mg x = some (.builtin id)) (ha : PA X (e :: es) (dA Z xc W fs))
    (hg : Gl X x := by rfl) (hdb : (x == ("__debug__" : Str)) = false := by decide)
    (he : starEach (e :: es) X.env = (false, eval e X.env) :: starEach es X.env := by rfl) (hpl : (backTo pos (starEach es X.env)).any (·.1) = false := by rfl) : PE X (.Call (.Name x p) (e :: es) [] pos) (dE Z xc W (eApp f fs)) :=
  PE_imp (pe_callBfun hc hg hm ha hdb he hpl) fun σ H Q ⟨ads, ρ, s, t, h⟩ => ⟨ads, ρ, s, t, bAE h fun ds s1 xs H1 ads1 x1 g1 r1 h1 => hd g1 r1 h1⟩
end
end DL

/-! DL3: statements, loops, comprehensions, defs. -/
namespace DL
open PySem PySem.Spec PyProof.Rows L2

def R.thenS {α : Type} (r : R α) (ρ : En) (k : α → Sto → RS) : RS := match r with
  | .ok a s => k a s
  | .ex e s => .ex e ρ s
  | .no => .no
section
variable {Z : SC} {xc : Option Xc} {W : WX} {H H' H1 H2 : Hp} {ads ads' ads1 ads2 : List Addr} {s s' : Sto} {σ σ' : L2.St} {ρ ρ' : En} {Dn : Ends}
theorem bES {r : R D} {k : D → Sto → RS} {Q' : VK} (t : Std Z xc σ H ads ρ s) (h : PoS Z xc W Dn H ads (r.thenS ρ k))
    (hk : ∀ d s1 v H' ads', Xt Z.K H ads H' ads' → Gd Z H' ads' s1 → Rp Z.K H' ads' v d → PoS Z xc W Dn H' ads' (k d s1) → Q' v H') : PoE Z W σ H ads Q' r := by
  cases r with
  | ok d s => exact fun v H' ads' x g q => hk d s v H' ads' x g q (h.mono x)
  | ex e s => exact fun c y H' ads' x g q => h c y σ H' ads' x g q (t.r.mono x)
  | no => exact h
theorem bAS {r : R (List D)} {k : List D → Sto → RS} {Q' : List V → Hp → Prop} (t : Std Z xc σ H ads ρ s) (h : PoS Z xc W Dn H ads (r.thenS ρ k))
    (hk : ∀ d s1 v H' ads', Xt Z.K H ads H' ads' → Gd Z H' ads' s1 → Rps Z.K H' ads' v d → PoS Z xc W Dn H' ads' (k d s1) → Q' v H') : PoA Z W σ H ads Q' r := by
  cases r with
  | ok d s => exact fun v H' ads' x g q => hk d s v H' ads' x g q (h.mono x)
  | ex e s => exact fun c y H' ads' x g q => h c y σ H' ads' x g q (t.r.mono x)
  | no => exact h
theorem bTS {α : Type} {r : R α} {k : α → Sto → RS} {Q' : α → Hp → Prop} (t : Std Z xc σ H ads ρ s) (h : PoS Z xc W Dn H ads (r.thenS ρ k))
    (hk : ∀ d s1 H' ads', Xt Z.K H ads H' ads' → Gd Z H' ads' s1 → PoS Z xc W Dn H' ads' (k d s1) → Q' d H') : PoT Z W σ H ads Q' r := by
  cases r with
  | ok d s => exact fun H' ads' x g => hk d s H' ads' x g (h.mono x)
  | ex e s => exact fun c y H' ads' x g q => h c y σ H' ads' x g q (t.r.mono x)
  | no => exact h
theorem PoS.nx_ {ρ : En} (h : PoS Z xc W Dn H ads (.nx ρ s)) (g : Gd Z H ads s) (r : RpEn Z.K H ads xc σ ρ) : Dn.nx σ H := h σ H ads Xt.refl g r
end

def sSkip : SF := fun ρ s => .nx ρ s
def sSeq (F G : SF) : SF := fun ρ s => match F ρ s with
  | .nx ρ' s' => G ρ' s'
  | r => r
def sExpr (e : EF) : SF := fun ρ s => (e ρ s).thenS ρ fun _ s1 => .nx ρ s1
def sRet (e : EF) : SF := fun ρ s => (e ρ s).thenS ρ fun d s1 => .rt d s1
def sRetN : SF := fun _ s => .rt .non s
def sBreak : SF := fun ρ s => .bk ρ s
def sCont : SF := fun ρ s => .ct ρ s
def sIf (c : TF) (F G : SF) : SF := fun ρ s => (c ρ s).thenS ρ fun b s1 => if b then F ρ s1 else G ρ s1
/-- targets -/
abbrev GF := D → En → Option En
abbrev GFs := List D → En → Option En
def gN (i : Nat) : GF := fun d ρ => some (ρ.set i (.d d))
def gsN : GFs := fun ds ρ => if ds.isEmpty then some ρ else none
def gsC (g : GF) (gs : GFs) : GFs := fun ds ρ => match ds with
  | [] => none
  | d :: ds => (g d ρ).bind fun ρ1 => gs ds ρ1
def gT (gs : GFs) : GF := fun d ρ => match d with
  | .tup ds => gs ds ρ
  | _ => none
def sAsg (g : GF) (e : EF) : SF := fun ρ s => (e ρ s).thenS ρ fun d s1 => match g d ρ with
  | some ρ1 => .nx ρ1 s1
  | none => .no
def sSet (i : Nat) (e : EF) : SF := sAsg (gN i) e
/-- two names at once -/
def sPar (i j : Nat) (as : AF) : SF := fun ρ s => (as ρ s).thenS ρ fun ds s1 => match ds with
  | [d, e] => .nx ((ρ.set i (.d d)).set j (.d e)) s1
  | _ => .no
theorem PG_imp {X : Cx} {e : Expr} {t t' : TG} (h : PG X e t) (k : ∀ v σ H Q, t' v σ H Q → t v σ H Q) : PG X e t' := ⟨fun pins s σ H v u Q I r q => h.run pins s σ H v u Q I r (k v σ H Q q)⟩
theorem PGs_imp {X : Cx} {e : List Expr} {t t' : TGs} (h : PGs X e t) (k : ∀ v σ H Q, t' v σ H Q → t v σ H Q) : PGs X e t' := ⟨fun pins s σ H v u Q I r q => h.run pins s σ H v u Q I r (k v σ H Q q)⟩
def dG (Z : SC) (xc : Option Xc) (g : GF) : TG := fun v σ H Q => ∃ ads ρ d, RpEn Z.K H ads xc σ ρ ∧ Rp Z.K H ads v d ∧ ∃ ρ', g d ρ = some ρ' ∧ ∀ σ', RpEn Z.K H ads xc σ' ρ' → Q σ' H
def dGs (Z : SC) (xc : Option Xc) (g : GFs) : TGs := fun vs σ H Q => ∃ ads ρ ds, RpEn Z.K H ads xc σ ρ ∧ Rps Z.K H ads vs ds ∧ ∃ ρ', g ds ρ = some ρ' ∧ ∀ σ', RpEn Z.K H ads xc σ' ρ' → Q σ' H
section
variable {X : Cx} {Z : SC} {xc : Option Xc} {W : WX} {a b c e : Expr} {fa fb fc fe : EF} {pos : Pos}
theorem d_gname (i : Nat) {x : Str} (hN : X.N.Nodup) (hi : X.N[i]? = some x := by rfl) (hx : Loc X.env.scope x := by first | exact Or.inl rfl | exact Or.inr rfl) (hf : X.fn x = true ∨ X.env.scope.names.lookup x = some .local := by first | exact .inl rfl | exact .inr rfl | assumption) : PG X (.Name x pos) (dG Z xc (gN i)) :=
  PG_imp (pg_name (i := i) hN hi hx hf) fun v σ H Q ⟨ads, ρ, d, r, rd, ρ', e, k⟩ => k _ (by cases e; exact r.set rd)
theorem d_gnil : PGs X [] (dGs Z xc gsN) := PGs_imp pgs_nil fun vs σ H Q ⟨ads, ρ, ds, r, rd, ρ', e, k⟩ => by
  unfold gsN at e
  cases rd with
  | nil => cases e; exact ⟨rfl, k _ r⟩
  | cons _ _ => simp at e
theorem d_gcons {es : List Expr} {g : GF} {gs : GFs} (h1 : PG X e (dG Z xc g)) (h2 : PGs X es (dGs Z xc gs))
    (hs : (assignEach (e :: es) X.env).map (·.2) = assign e X.env :: (assignEach es X.env).map (·.2) := by rfl) : PGs X (e :: es) (dGs Z xc (gsC g gs)) :=
  PGs_imp (pgs_cons h1 h2 hs) fun vs σ H Q ⟨ads, ρ, ds, r, rd, ρ', e, k⟩ => by
    cases rd with
    | nil => cases e
    | @cons v vs d ds r1 rs =>
      have e : (g d ρ).bind (fun ρ1 => gs ds ρ1) = some ρ' := e
      cases q : g d ρ with
      | none => (rw [q] at e; cases e)
      | some ρ1 =>
        rw [q] at e
        exact ⟨v, vs, rfl, ads, ρ, d, r, r1, ρ1, q, fun σ1 k1 => ⟨ads, ρ1, ds, k1, rs, ρ', e, k⟩⟩
theorem d_gtup {es : List Expr} {k : Nat} {gs : GFs} {n : Nat} (hc : X.calm = true) (hK : X.K = Z.K) (h : PGs X es (dGs Z xc gs)) (hg : ∀ ds ρ ρ', gs ds ρ = some ρ' → ds.length = n)
    (hn : (assignEach es X.env).length = n := by rfl) (hst : (assignEach es X.env).findIdx? (·.1) = none := by rfl) : PG X (.Tuple es k pos) (dG Z xc (gT gs)) :=
  PG_imp (pg_tup hc h hn hst) fun v σ H Q ⟨ads, ρ, d, r, rd, ρ', e, k⟩ => by
    cases rd with
    | @tup a xs ds q t z =>
      exact ⟨a, xs, rfl, by rw [hK]; exact q, by rw [t.length]; exact hg _ _ _ e, ads, ρ, ds, r, t, ρ', e, k⟩
    | _ => cases e
theorem gsN_len : ∀ ds ρ ρ', gsN ds ρ = some ρ' → ds.length = 0 := fun ds ρ ρ' h => by
  unfold gsN at h
  cases ds with
  | nil => rfl
  | cons => simp at h
theorem gsC_len {g : GF} {gs : GFs} {n : Nat} (h : ∀ ds ρ ρ', gs ds ρ = some ρ' → ds.length = n) : ∀ ds ρ ρ', gsC g gs ds ρ = some ρ' → ds.length = n + 1 := fun ds ρ ρ' e => by
  cases ds with
  | nil => cases e
  | cons d ds =>
    have e : (g d ρ).bind (fun ρ1 => gs ds ρ1) = some ρ' := e
    cases q : g d ρ with
    | none => (rw [q] at e; cases e)
    | some ρ1 =>
      rw [q] at e
      have := h ds ρ1 ρ' e
      simp [this]
/-! ### statements -/
theorem d_snil : PSs X [] (dS Z xc W sSkip) := PSs_imp pss_nil fun Dn σ H ⟨ads, ρ, s, t, h⟩ => h.nx_ t.g t.r
theorem d_pass : PS X (.Pass pos) (dS Z xc W sSkip) := PS_imp ps_pass fun Dn σ H ⟨ads, ρ, s, t, h⟩ => h.nx_ t.g t.r
theorem d_break : PS X (.Break pos) (dS Z xc W sBreak) := PS_imp ps_break fun Dn σ H ⟨ads, ρ, s, t, h⟩ => h σ H ads Xt.refl t.g t.r
theorem d_cont : PS X (.Continue pos) (dS Z xc W sCont) := PS_imp ps_continue fun Dn σ H ⟨ads, ρ, s, t, h⟩ => h σ H ads Xt.refl t.g t.r
theorem d_one {st : Stmt} {F : SF} (h : PS X st (dS Z xc W F)) : PSs X [st] (dS Z xc W F) := pss_one h
theorem d_seq {st : Stmt} {rest : List Stmt} {F G : SF} (h : PS X st (dS Z xc W F)) (k : PSs X rest (dS Z xc W G)) : PSs X (st :: rest) (dS Z xc W (sSeq F G)) :=
  PSs_imp (pss_cons h k) fun Dn σ H ⟨ads, ρ, s, t, q⟩ => by
    refine ⟨ads, ρ, s, t, ?_⟩
    unfold sSeq at q
    generalize F ρ s = r at q
    cases r with
    | nx ρ1 s1 =>
      intro σ' H' ads' x g rr
      exact ⟨ads', ρ1, s1, t.monoS x g rr, PoS.mono x q⟩
    | _ => exact q
theorem d_expr (he : PE X e (dE Z xc W fe)) (hs : swapsWith e none pos.line X.env = pure false := by rfl) : PS X (.Expr e pos) (dS Z xc W (sExpr fe)) :=
  PS_imp (ps_expr he hs) fun Dn σ H ⟨ads, ρ, s, t, q⟩ => ⟨ads, ρ, s, t, bES t q fun d s1 v H1 ads1 x1 g1 r1 q1 => q1.nx_ g1 (t.r.mono x1)⟩
theorem d_ret (he : PE X e (dE Z xc W fe)) : PS X (.Return (some e) pos) (dS Z xc W (sRet fe)) :=
  PS_imp (ps_ret he) fun Dn σ H ⟨ads, ρ, s, t, q⟩ => ⟨ads, ρ, s, t, bES t q fun d s1 v H1 ads1 x1 g1 r1 q1 => q1 v H1 ads1 Xt.refl g1 r1⟩
theorem d_retN : PS X (.Return none pos) (dS Z xc W sRetN) := PS_imp ps_retN fun Dn σ H ⟨ads, ρ, s, t, q⟩ => q .non H ads Xt.refl t.g .non
theorem d_sif {tc : TF} {p q : List Stmt} {F G : SF} (hc : PT X c (dT Z xc W tc)) (hp : PSs X p (dS Z xc W F)) (hq : PSs X q (dS Z xc W G)) : PS X (.If c p q pos) (dS Z xc W (sIf tc F G)) :=
  PS_imp (ps_if hc hp hq) fun Dn σ H ⟨ads, ρ, s, t, h⟩ => ⟨ads, ρ, s, t, bTS t h fun k s1 H1 ads1 x1 g1 h1 => by
    cases k with
    | true => exact iteT ⟨ads1, ρ, s1, t.mono x1 g1, h1⟩
    | false => exact iteF ⟨ads1, ρ, s1, t.mono x1 g1, h1⟩⟩
theorem asg_ok {g : GF} {d : D} {s1 : Sto} {v : V} {σ : L2.St} {ρ : En} {H1 : Hp} {ads1 : List Addr} {Dn : Ends} (r : RpEn Z.K H1 ads1 xc σ ρ) (g1 : Gd Z H1 ads1 s1) (r1 : Rp Z.K H1 ads1 v d)
    (h : PoS Z xc W Dn H1 ads1 (match g d ρ with | some ρ1 => .nx ρ1 s1 | none => .no)) : dG Z xc g v σ H1 Dn.nx := by
  cases q : g d ρ with
  | none => rw [q] at h; exact h.elim
  | some ρ1 =>
    rw [q] at h
    exact ⟨ads1, ρ, d, r, r1, ρ1, q, fun σ' k => h.nx_ g1 k⟩
theorem d_asg {tg : Expr} {g : GF} (he : PE X e (dE Z xc W fe)) (hg : PG X tg (dG Z xc g)) (hs : swapsWithSole [tg] e pos.line X.env = pure false := by rfl) (hw : swappedStores [tg] e X.env = pure none := by rfl)
    (h1 : (assignEach [tg] X.env).map (·.2) = [assign tg X.env] := by rfl) : PS X (.Assign [tg] e pos) (dS Z xc W (sAsg g fe)) :=
  PS_imp (ps_asg he hg hs hw h1) fun Dn σ H ⟨ads, ρ, s, t, q⟩ => ⟨ads, ρ, s, t, bES t q fun d s1 v H1 ads1 x1 g1 r1 q1 => asg_ok (t.r.mono x1) g1 r1 q1⟩
theorem d_set (i : Nat) {x : Str} {pos' : Pos} (hN : X.N.Nodup) (he : PE X e (dE Z xc W fe)) (hi : X.N[i]? = some x := by rfl) (hx : Loc X.env.scope x := by first | exact Or.inl rfl | exact Or.inr rfl) (hs : swapsWith e (some (.Name x pos')) pos.line X.env = pure false := by rfl)
    (hf : X.fn x = true ∨ X.env.scope.names.lookup x = some .local := by first | exact .inl rfl | exact .inr rfl | assumption) : PS X (.Assign [.Name x pos'] e pos) (dS Z xc W (sSet i fe)) :=
  PS_imp (ps_set (i := i) hN hi hx he hs hf) fun Dn σ H ⟨ads, ρ, s, t, q⟩ => ⟨ads, ρ, s, t, bES t q fun d s1 v H1 ads1 x1 g1 r1 q1 => q1.nx_ g1 ((t.r.mono x1).set r1)⟩
theorem d_par (i j : Nat) {x y : Str} {px py pt : Pos} {kt k2 pt2} {as : AF} (hc : X.calm = true) (hN : X.N.Nodup) (ha : PA X [a, b] (dA Z xc W as)) (hi : X.N[i]? = some x := by rfl) (hj : X.N[j]? = some y := by rfl) (hij : i ≠ j := by decide)
    (hx : X.env.scope.names.lookup x = some .local := by rfl) (hy : X.env.scope.names.lookup y = some .local := by rfl)
    (hw : swappedStores [.Tuple [.Name x px, .Name y py] kt pt] (.Tuple [a, b] k2 pt2) X.env = pure (some [x, y]) := by rfl)
    (hs : swapsWithSole [.Tuple [.Name x px, .Name y py] kt pt] (.Tuple [a, b] k2 pt2) pos.line X.env = pure false := by rfl) : PS X (.Assign [.Tuple [.Name x px, .Name y py] kt pt] (.Tuple [a, b] k2 pt2) pos) (dS Z xc W (sPar i j as)) :=
  PS_imp (ps_par hc hN hi hj hij hx hy ha hw hs) fun Dn σ H ⟨ads, ρ, s, t, q⟩ => ⟨ads, ρ, s, t, bAS t q fun ds s1 vs H1 ads1 x1 g1 r1 q1 => by
    cases r1 with
    | nil => exact q1.elim
    | cons r2 r1 => cases r1 with
      | nil => exact q1.elim
      | cons r3 r1 => cases r1 with
        | cons _ _ => exact q1.elim
        | nil => exact ⟨_, _, rfl, q1.nx_ g1 (((t.r.mono x1).set (o := some _) (l := .d _) r2).set (o := some _) (l := .d _) r3)⟩⟩
end

/-! ### what a loop walks -/
inductive Src where
  | items (xs : List D)
  | cell (n : Nat) (xs : List D)
def Src.list : Src → List D
  | .items xs => xs
  | .cell _ xs => xs
def Src.ok : Src → Sto → Prop
  | .items _, _ => True
  | .cell n xs, s => s[n]? = some (.lst xs)
abbrev CF := En → Sto → R Src
/-- J gives what S tells, from H₀ on -/
def JOk (Z : SC) (H₀ : Hp) (ads₀ : List Addr) (J : It) (S : Src) : Prop := ∀ (i : Nat) (H : Hp) (ads : List Addr) (s : Sto), Xt Z.K H₀ ads₀ H ads → Gd Z H ads s → S.ok s →
  (S.list.length ≤ i → J.stop i H) ∧ (i < S.list.length → J.go i H ∧ ∀ x H', J.yld i H x H' → ∃ ads', Xt Z.K H ads H' ads' ∧ Gd Z H' ads' s ∧ ∃ d, S.list[i]? = some d ∧ Rp Z.K H' ads' x d)
def PoC (Z : SC) (W : WX) (σ : L2.St) (H : Hp) (ads : List Addr) (Q : It → Hp → Prop) : R Src → Prop
  | .ok S s => ∀ J H' ads', Xt Z.K H ads H' ads' → Gd Z H' ads' s → S.ok s → JOk Z H' ads' J S → Q J H'
  | .ex e s => ∀ c x H' ads', Xt Z.K H ads H' ads' → Gd Z H' ads' s → XRep Z H' ads' c x e → W c x σ H'
  | .no => False
def dC (Z : SC) (xc : Option Xc) (W : WX) (f : CF) : TI := fun σ H Q => ∃ ads ρ s, Std Z xc σ H ads ρ s ∧ PoC Z W σ H ads Q (f ρ s)
theorem PI_imp {X : Cx} {tg e : Expr} {t t' : TI} (h : PI X tg e t) (k : ∀ σ H Q, t' σ H Q → t σ H Q) : PI X tg e t' := ⟨fun pins s σ H Q I q => h.run pins s σ H Q I (k σ H Q q)⟩
theorem PI_or {X : Cx} {tg e : Expr} {t t' : TI} (h : PI X tg e t) (h' : PI X tg e t') : PI X tg e (fun σ H Q => t σ H Q ∨ t' σ H Q) := ⟨fun pins s σ H Q I q => by
  rcases q with q | q
  · exact h.run pins s σ H Q I q
  · exact h'.run pins s σ H Q I q⟩
def cSrc (op : D → Sto → R Src) (a : EF) : CF := fun ρ s => (a ρ s).bind op
def srcD : D → Sto → R Src
  | .tup xs, s => .ok (.items xs) s
  | .fls xs, s => .ok (.items xs) s
  | .loc n, s => match s[n]? with
    | some (.lst xs) => .ok (.cell n xs) s
    | _ => .no
  | _, _ => .no
section
variable {Z : SC} {xc : Option Xc} {W : WX} {H H' H1 H2 : Hp} {ads ads' ads1 ads2 : List Addr} {s s' : Sto} {σ σ' : L2.St} {ρ ρ' : En} {Dn : Ends}
theorem SqT.len {K : PySem.W.Frag} {H : Hp} {a : Addr} {xs ys : List V} (h : SqT K H a xs) (h' : SqT K H a ys) (hd : ∀ o, K.lookup a = some o → H a = none) : xs = ys ∨ True := Or.inr trivial
theorem jok_tup {a : Addr} {xs : List V} {ds : List D} (q : SqT Z.K H a xs) (r : Rps Z.K H ads xs ds) : JOk Z H ads (Itt Z.K a) (.items ds) := fun i H1 ads1 s x g _ => by
  have q1 := x.tup _ _ q
  have r1 := r.mono x
  refine ⟨fun hi => ⟨xs, q1, by rw [r.length]; exact hi⟩, fun hi => ⟨⟨xs, xs[i]'(by rw [r.length]; exact hi), q1, by simp⟩, fun v H' y => ?_⟩⟩
  obtain ⟨e, y⟩ := y
  subst e
  obtain ⟨d, h1, h2⟩ := r1.getV (y xs q1)
  exact ⟨ads1, Xt.refl, g, d, h1, h2⟩
theorem jok_fls {a : Addr} {xs : List V} {ds : List D} (q : FzL Z.K H a xs) (r : Rps Z.K H ads xs ds) : JOk Z H ads (Itl Z.K a) (.items ds) := fun i H1 ads1 s x g _ => by
  have q1 := (x.fzl _ _ q).sq
  have r1 := r.mono x
  refine ⟨fun hi => ⟨xs, q1, by rw [r.length]; exact hi⟩, fun hi => ⟨⟨xs, xs[i]'(by rw [r.length]; exact hi), q1, by simp⟩, fun v H' y => ?_⟩⟩
  obtain ⟨e, y⟩ := y
  subst e
  obtain ⟨d, h1, h2⟩ := r1.getV (y xs q1)
  exact ⟨ads1, Xt.refl, g, d, h1, h2⟩
theorem jok_cell {a : Addr} {n : Nat} {ds : List D} (q : ads[n]? = some a) : JOk Z H ads (Itl Z.K a) (.cell n ds) := fun i H1 ads1 s x g e => by
  have q1 := x.at_ q
  obtain ⟨c, hc, k⟩ := g.cellA q1
  have e : s[n]? = some (.lst ds) := e
  rw [e] at hc; cases hc
  obtain ⟨xs, hx, r, _⟩ := k
  have q2 : SqL Z.K H1 a xs := SqL.of hx
  refine ⟨fun hi => ⟨xs, q2, by rw [r.length]; exact hi⟩, fun hi => ⟨⟨xs, xs[i]'(by rw [r.length]; exact hi), q2, by simp⟩, fun v H' y => ?_⟩⟩
  obtain ⟨e, y⟩ := y
  subst e
  obtain ⟨d, h1, h2⟩ := r.getV (y xs q2)
  exact ⟨ads1, Xt.refl, g, d, h1, h2⟩
theorem bEC {r : R D} {k : D → Sto → R Src} {Q : It → Hp → Prop} {Q' : VK} (h : PoC Z W σ H ads Q (r.bind k))
    (hk : ∀ d s1 v H' ads', Xt Z.K H ads H' ads' → Gd Z H' ads' s1 → Rp Z.K H' ads' v d → PoC Z W σ H' ads' Q (k d s1) → Q' v H') : PoE Z W σ H ads Q' r := by
  cases r with
  | ok d s => exact fun v H' ads' x g q => hk d s v H' ads' x g q (by
      have h : PoC Z W σ H ads Q (k d s) := h
      generalize k d s = r at h
      cases r with
      | ok S s1 => exact fun J H2 ads2 x2 => h J H2 ads2 (x.trans x2)
      | ex e s1 => exact fun c y H2 ads2 x2 => h c y H2 ads2 (x.trans x2)
      | no => exact h)
  | ex e s => exact h
  | no => exact h
theorem bAC {r : R (List D)} {k : List D → Sto → R Src} {Q : It → Hp → Prop} {Q' : List V → Hp → Prop} (h : PoC Z W σ H ads Q (r.bind k))
    (hk : ∀ d s1 v H' ads', Xt Z.K H ads H' ads' → Gd Z H' ads' s1 → Rps Z.K H' ads' v d → PoC Z W σ H' ads' Q (k d s1) → Q' v H') : PoA Z W σ H ads Q' r := by
  cases r with
  | ok d s => exact fun v H' ads' x g q => hk d s v H' ads' x g q (by
      have h : PoC Z W σ H ads Q (k d s) := h
      generalize k d s = r at h
      cases r with
      | ok S s1 => exact fun J H2 ads2 x2 => h J H2 ads2 (x.trans x2)
      | ex e s1 => exact fun c y H2 ads2 x2 => h c y H2 ads2 (x.trans x2)
      | no => exact h)
  | ex e s => exact h
  | no => exact h
end
/-- a value that is a list, a tuple -/
def iLT (K : PySem.W.Frag) (tl : TE) : TI := fun σ H Q => tl σ H fun v H1 => ∃ a, v = .ref a ∧ (((∃ xs, SqL K H1 a xs) ∧ Q (Itl K a) H1) ∨ ((∃ xs, SqT K H1 a xs) ∧ Q (Itt K a) H1))
section
variable {X : Cx} {Z : SC} {xc : Option Xc} {W : WX} {a b c e tg : Expr} {fa fb fc fe : EF} {pos : Pos}
theorem pi_lt {tl : TE} (h : PE X e tl) : PI X tg e (iLT X.K tl) := by
  constructor
  intro pins s σ H Q I q
  refine thn (h.run pins s σ H _ I q) ?_
  rintro v s1 ⟨y, H1, I1, ry, p, rfl, k⟩
  cases ry
  have fresh := I1.hok.fresh (Nat.le_refl _)
  rcases k with ⟨⟨ys, hy⟩, k⟩ | ⟨⟨ys, hy⟩, k⟩
  · obtain ⟨its, _, pl, _⟩ := I1.list hy
    refine wpAny_pyIter_list pl.isList ⟨s1.heap.objs.size, [s1.heap.objs.size], _, _, H1, rfl, ?_, turn_list p _, ⟨_, Heap.get?_push_size _ rfl, rfl, rfl⟩, ?_, k⟩
    · exact I1.kept (t' := s1.toks) fun c o z => Heap.get?_push_of_some _ z
    · intro c hc
      rw [List.mem_singleton] at hc
      rw [hc]
      exact I1.fpOk (Nat.le_refl _) fresh
  · obtain ⟨its, _, pl, _⟩ := I1.tuple hy
    refine wpAny_pyIter_tuple (show s1.heap.IsTuple p its.toArray from pl) ⟨s1.heap.objs.size, [s1.heap.objs.size], _, _, H1, rfl, ?_, turn_tuple p _, ⟨_, Heap.get?_push_size _ rfl, rfl, rfl⟩, ?_, k⟩
    · exact I1.kept (t' := s1.toks) fun c o z => Heap.get?_push_of_some _ z
    · intro c hc
      rw [List.mem_singleton] at hc
      rw [hc]
      exact I1.fpOk (Nat.le_refl _) fresh
theorem d_src (hK : X.K = Z.K) (h : PE X e (dE Z xc W fe)) : PI X tg e (dC Z xc W (cSrc srcD fe)) :=
  PI_imp (pi_lt h) fun σ H Q ⟨ads, ρ, s, t, q⟩ => ⟨ads, ρ, s, t, bEC q fun d s1 v H1 ads1 x1 g1 r1 q1 => by
    rw [hK]
    cases r1 with
    | @tup a xs ds y r z => exact ⟨a, rfl, .inr ⟨⟨xs, y⟩, q1 _ H1 ads1 Xt.refl g1 trivial (jok_tup y r)⟩⟩
    | @fls a xs ds y r z => exact ⟨a, rfl, .inl ⟨⟨xs, y.sq⟩, q1 _ H1 ads1 Xt.refl g1 trivial (jok_fls y r)⟩⟩
    | @loc a n y =>
      obtain ⟨c, hc, k⟩ := g1.cellA y
      simp only [srcD, hc] at q1
      cases c with
      | lst ds =>
        obtain ⟨xs, hx, r, _⟩ := k
        exact ⟨a, rfl, .inl ⟨⟨xs, SqL.of hx⟩, q1 _ H1 ads1 Xt.refl g1 hc (jok_cell y)⟩⟩
      | _ => exact q1.elim
    | _ => exact q1.elim⟩
/-- ranges -/
def rng1D : List D → Sto → R Src
  | [.int n], s => if n ≤ 100000 ∧ -100000 ≤ n then .ok (.items ((List.range n.toNat).map fun (i : Nat) => .int (i : Int))) s else .no
  | _, _ => .no
def rng2D : List D → Sto → R Src
  | [.int m, .int n], s => if (m ≤ 100000 ∧ -100000 ≤ m) ∧ n ≤ 100000 ∧ -100000 ≤ n then .ok (.items ((List.range (n - m).toNat).map fun (i : Nat) => .int (m + (i : Int)))) s else .no
  | _, _ => .no
def cApp (op : List D → Sto → R Src) (as : AF) : CF := fun ρ s => (as ρ s).bind op
theorem jok_rng {H : Hp} {ads : List Addr} (lo : Int) (n : Nat) : JOk Z H ads (Itr lo n) (.items ((List.range n).map fun (i : Nat) => .int (lo + (i : Int)))) := fun i H1 ads1 s x g _ => by
  have hl : (Src.items ((List.range n).map fun (i : Nat) => .int (lo + (i : Int)))).list.length = n := by simp [Src.list]
  refine ⟨fun hi => show n ≤ i from hl ▸ hi, fun hi => ⟨show i < n from hl ▸ hi, fun v H' y => ?_⟩⟩
  obtain ⟨e, y⟩ := y
  subst e; subst y
  have hi : i < n := by simpa [Src.list] using hi
  exact ⟨ads1, Xt.refl, g, .int (lo + i), by simp [Src.list, hi], .int _⟩
theorem rps1 {K : PySem.W.Frag} {H : Hp} {ads : List Addr} {vs : List V} {d : D} (r : Rps K H ads vs [d]) : ∃ v, vs = [v] ∧ Rp K H ads v d := by
  cases r with
  | cons r1 r2 => (cases r2; exact ⟨_, rfl, r1⟩)
theorem rps2 {K : PySem.W.Frag} {H : Hp} {ads : List Addr} {vs : List V} {d e : D} (r : Rps K H ads vs [d, e]) : ∃ v w, vs = [v, w] ∧ Rp K H ads v d ∧ Rp K H ads w e := by
  cases r with
  | cons r1 r2 =>
    obtain ⟨w, rfl, r3⟩ := rps1 r2
    exact ⟨_, _, rfl, r1, r3⟩
theorem rps3 {K : PySem.W.Frag} {H : Hp} {ads : List Addr} {vs : List V} {d e f : D} (r : Rps K H ads vs [d, e, f]) : ∃ v w u, vs = [v, w, u] ∧ Rp K H ads v d ∧ Rp K H ads w e ∧ Rp K H ads u f := by
  cases r with
  | cons r1 r2 =>
    obtain ⟨w, u, rfl, r3, r4⟩ := rps2 r2
    exact ⟨_, _, _, rfl, r1, r3, r4⟩
theorem rps0 {K : PySem.W.Frag} {H : Hp} {ads : List Addr} {vs : List V} (r : Rps K H ads vs []) : vs = [] := by
  cases r; rfl
theorem rp_int {K : PySem.W.Frag} {H : Hp} {ads : List Addr} {v : V} {i : Int} (r : Rp K H ads v (.int i)) : v = .int i := by cases r; rfl
theorem rng1_inv {ds : List D} {s : Sto} {σ : L2.St} {H : Hp} {ads : List Addr} {Q : It → Hp → Prop} (q : PoC Z W σ H ads Q (rng1D ds s)) :
    ∃ n : Int, ds = [.int n] ∧ (n ≤ 100000 ∧ -100000 ≤ n) ∧ PoC Z W σ H ads Q (.ok (.items ((List.range n.toNat).map fun (i : Nat) => .int (i : Int))) s) := by
  unfold rng1D at q
  split at q
  · split at q
    · exact ⟨_, rfl, by assumption, q⟩
    · exact q.elim
  · exact q.elim
theorem rng2_inv {ds : List D} {s : Sto} {σ : L2.St} {H : Hp} {ads : List Addr} {Q : It → Hp → Prop} (q : PoC Z W σ H ads Q (rng2D ds s)) :
    ∃ m n : Int, ds = [.int m, .int n] ∧ ((m ≤ 100000 ∧ -100000 ≤ m) ∧ n ≤ 100000 ∧ -100000 ≤ n) ∧ PoC Z W σ H ads Q (.ok (.items ((List.range (n - m).toNat).map fun (i : Nat) => .int (m + (i : Int)))) s) := by
  unfold rng2D at q
  split at q
  · split at q
    · exact ⟨_, _, rfl, by assumption, q⟩
    · exact q.elim
  · exact q.elim
theorem d_rng1 {p : Pos} {fs : AF} (ha : PA X [a] (dA Z xc W fs)) (hm : X.mg "range" = none) (hg : Gl X "range" := by rfl) (hs : starEach [a] X.env = [(false, eval a X.env)] := by rfl) : PI X tg (.Call (.Name "range" p) [a] [] pos) (dC Z xc W (cApp rng1D fs)) :=
  PI_imp (pi_range1 hg hm ha hs) fun σ H Q ⟨ads, ρ, s, t, q⟩ => ⟨ads, ρ, s, t, bAC q fun ds s1 vs H1 ads1 x1 g1 r1 q1 => by
    obtain ⟨n, rfl, hb, q1⟩ := rng1_inv q1
    obtain ⟨v, rfl, rv⟩ := rps1 r1
    cases rp_int rv
    refine ⟨n, rfl, by omega, by omega, q1 _ H1 ads1 Xt.refl g1 trivial ?_⟩
    have k := jok_rng (Z := Z) (H := H1) (ads := ads1) 0 n.toNat
    simpa using k⟩
theorem d_rng2 {p : Pos} {fs : AF} (ha : PA X [a, b] (dA Z xc W fs)) (hm : X.mg "range" = none) (hg : Gl X "range" := by rfl) (hs : starEach [a, b] X.env = [(false, eval a X.env), (false, eval b X.env)] := by rfl) (hs2 : starEach [b] X.env = [(false, eval b X.env)] := by rfl) : PI X tg (.Call (.Name "range" p) [a, b] [] pos) (dC Z xc W (cApp rng2D fs)) :=
  PI_imp (pi_range2 hg hm ha hs hs2) fun σ H Q ⟨ads, ρ, s, t, q⟩ => ⟨ads, ρ, s, t, bAC q fun ds s1 vs H1 ads1 x1 g1 r1 q1 => by
    obtain ⟨m, n, rfl, hb, q1⟩ := rng2_inv q1
    obtain ⟨v, w, rfl, rv, rw⟩ := rps2 r1
    cases rp_int rv
    cases rp_int rw
    exact ⟨m, n, rfl, by omega, q1 _ H1 ads1 Xt.refl g1 trivial (jok_rng m _)⟩⟩
end

/-! ### for, while -/
/-- behind a turn -/
def turnK (r : RS) (k : SF) : RS := match r with
  | .nx ρ s => k ρ s
  | .ct ρ s => k ρ s
  | .bk ρ s => .nx ρ s
  | r => r
open Classical in
/-- the turns of a for over what S tells -/
noncomputable def loopF (S : Src) (g : GF) (F : SF) : List D → SF
  | [], ρ, s => if S.ok s then .nx ρ s else .no
  | x :: xs, ρ, s => if S.ok s then
      match g x ρ with
      | none => .no
      | some ρ1 => turnK (F ρ1 s) (loopF S g F xs)
    else .no
noncomputable def sFor (c : CF) (g : GF) (F : SF) : SF := fun ρ s => (c ρ s).thenS ρ fun S s1 => loopF S g F S.list ρ s1
def loopW (c : TF) (F : SF) : Nat → SF
  | 0, _, _ => .no
  | n + 1, ρ, s => (c ρ s).thenS ρ fun b s1 => if b then turnK (F ρ s1) (loopW c F n) else .nx ρ s1
/-- fuel: how many turns at most -/
def sWhile (fuel : En → Sto → Nat) (c : TF) (F : SF) : SF := fun ρ s => loopW c F (fuel ρ s) ρ s
section
variable {X : Cx} {Z : SC} {xc : Option Xc} {W : WX} {c e tg : Expr} {pos : Pos} {body : List Stmt} {F : SF}
theorem bCS {H : Hp} {ads : List Addr} {s : Sto} {σ : L2.St} {ρ : En} {Dn : Ends} {r : R Src} {k : Src → Sto → RS} {Q' : It → Hp → Prop} (t : Std Z xc σ H ads ρ s) (h : PoS Z xc W Dn H ads (r.thenS ρ k))
    (hk : ∀ S s1 J H' ads', Xt Z.K H ads H' ads' → Gd Z H' ads' s1 → S.ok s1 → JOk Z H' ads' J S → PoS Z xc W Dn H' ads' (k S s1) → Q' J H') : PoC Z W σ H ads Q' r := by
  cases r with
  | ok d s => exact fun J H' ads' x g o q => hk d s J H' ads' x g o q (h.mono x)
  | ex e s => exact fun c y H' ads' x g q => h c y σ H' ads' x g q (t.r.mono x)
  | no => exact h
theorem loopF_ok {S : Src} {g : GF} {F : SF} {xs : List D} {ρ : En} {s : Sto} {Dn : Ends} {H : Hp} {ads : List Addr} (h : PoS Z xc W Dn H ads (loopF S g F xs ρ s)) : S.ok s ∧
    ((xs = [] ∧ PoS Z xc W Dn H ads (.nx ρ s)) ∨ ∃ x r ρ1, xs = x :: r ∧ g x ρ = some ρ1 ∧ PoS Z xc W Dn H ads (turnK (F ρ1 s) (loopF S g F r))) := by
  cases xs with
  | nil =>
    unfold loopF at h
    by_cases hs : S.ok s
    · rw [if_pos hs] at h
      exact ⟨hs, .inl ⟨rfl, h⟩⟩
    · rw [if_neg hs] at h
      exact h.elim
  | cons x r =>
    unfold loopF at h
    by_cases hs : S.ok s
    · rw [if_pos hs] at h
      cases e : g x ρ with
      | none => simp only [e] at h; exact h.elim
      | some ρ1 => simp only [e] at h; exact ⟨hs, .inr ⟨x, r, ρ1, rfl, e, h⟩⟩
    · rw [if_neg hs] at h
      exact h.elim
/-- behind a turn's body -/
theorem turn_ok {r : RS} {k : SF} {Dn : Ends} {N : L2.St → Hp → Prop} {H : Hp} {ads : List Addr} (q : PoS Z xc W Dn H ads (turnK r k))
    (hN : ∀ ρ s, PoS Z xc W Dn H ads (k ρ s) → ∀ σ' H' ads', Xt Z.K H ads H' ads' → Gd Z H' ads' s → RpEn Z.K H' ads' xc σ' ρ → N σ' H') : PoS Z xc W { Dn with nx := N, ct := N, bk := Dn.nx } H ads r := by
  cases r with
  | nx ρ s => exact hN ρ s q
  | ct ρ s => exact hN ρ s q
  | bk ρ s => exact q
  | rt d s => exact q
  | ex e ρ s => exact q
  | no => exact q
theorem d_for {iter : Expr} {cf : CF} {g : GF} (hp : PassesOwn (model X.prog X.w) X.A X.env X.xe) (hc : X.calm = true) (hi : PI X tg iter (dC Z xc W cf)) (hg : PG X tg (dG Z xc g)) (hb : PSs X body (dS Z xc W F))
    (hs : ∀ x, foldedSetIterable iter X.env x = pure x := by intro _; rfl) : PS X (.For tg iter body [] pos) (dS Z xc W (sFor cf g F)) :=
  PS_imp (ps_for hp hc hi hg hb hs) fun Dn σ H ⟨ads, ρ, s, t, q⟩ => ⟨ads, ρ, s, t, bCS t q fun S s1 J H1 ads1 x1 g1 so jo q1 => by
    refine ⟨fun i m σ2 H2 => m = S.list.length - i ∧ i ≤ S.list.length ∧ ∃ ads2 ρ2 s2, Xt Z.K H1 ads1 H2 ads2 ∧ Std Z xc σ2 H2 ads2 ρ2 s2 ∧ PoS Z xc W Dn H2 ads2 (loopF S g F (S.list.drop i) ρ2 s2),
      ⟨S.list.length, by simp, Nat.zero_le _, ads1, ρ, s1, Xt.refl, t.mono x1 g1, q1⟩, ?_⟩
    rintro i m σ2 H2 ⟨rfl, hi, ads2, ρ2, s2, x2, t2, q2⟩
    obtain ⟨so2, q2⟩ := loopF_ok q2
    obtain ⟨j1, j2⟩ := jo i H2 ads2 s2 x2 t2.g so2
    by_cases hlt : i < S.list.length
    · obtain ⟨jg, jy⟩ := j2 hlt
      have ed := List.drop_eq_getElem_cons hlt
      rcases q2 with ⟨e, _⟩ | ⟨d, r, ρ3, e, eg, q2⟩
      · rw [ed] at e; cases e
      rw [ed] at e
      obtain ⟨e1, e2⟩ := List.cons.inj e
      subst e1 e2
      refine .inr ⟨jg, fun σ3 H3 => ∃ ads3 ρ3 s3, Xt Z.K H1 ads1 H3 ads3 ∧ Std Z xc σ3 H3 ads3 ρ3 s3 ∧ PoS Z xc W Dn H3 ads3 (loopF S g F (S.list.drop (i + 1)) ρ3 s3), ?_, ?_⟩
      · rintro σ3 H3 ⟨ads3, ρ3, s3, x3, t3, q3⟩
        exact ⟨S.list.length - (i + 1), by omega, rfl, hlt, ads3, ρ3, s3, x3, t3, q3⟩
      · intro y H3 yl
        obtain ⟨ads3, x3, g3, d, hd, rd⟩ := jy y H3 yl
        have ed : d = S.list[i] := by
          have := List.getElem?_eq_getElem hlt
          rw [hd] at this; exact Option.some.inj this
        subst ed
        have t3 := t2.mono x3 g3
        have x13 := x2.trans x3
        refine ⟨ads3, ρ2, _, t3.r, rd, ρ3, eg, fun σ3 r3 => ⟨ads3, ρ3, s2, ⟨g3, t3.x, r3⟩, turn_ok (q2.mono x3) fun ρ4 s4 q4 σ4 H4 ads4 x4 g4 r4 => ?_⟩⟩
        exact ⟨ads4, ρ4, s4, x13.trans x4, ⟨g4, t3.x.mono x4, r4⟩, PoS.mono x4 q4⟩
    · have e : i = S.list.length := by omega
      subst e
      rcases q2 with ⟨_, q2⟩ | ⟨d, r, ρ3, e, _⟩
      · exact .inl ⟨j1 (Nat.le_refl _), q2.nx_ t2.g t2.r⟩
      · rw [List.drop_length] at e; cases e⟩
theorem d_while {tc : TF} (fuel : En → Sto → Nat) (hp : PassesOwn (model X.prog X.w) X.A X.env X.xe) (hc : PT X c (dT Z xc W tc)) (hb : PSs X body (dS Z xc W F)) : PS X (.While c body [] pos) (dS Z xc W (sWhile fuel tc F)) :=
  PS_imp (ps_while hp hc hb) fun Dn σ H ⟨ads, ρ, s, t, q⟩ => by
    refine ⟨fun m σ2 H2 => ∃ ads2 ρ2 s2, Std Z xc σ2 H2 ads2 ρ2 s2 ∧ PoS Z xc W Dn H2 ads2 (loopW tc F m ρ2 s2), ⟨fuel ρ s, ads, ρ, s, t, q⟩, ?_⟩
    rintro m σ2 H2 ⟨ads2, ρ2, s2, t2, q2⟩
    cases m with
    | zero => exact q2.elim
    | succ m =>
      refine ⟨ads2, ρ2, s2, t2, bTS t2 q2 fun k s3 H3 ads3 x3 g3 q3 => ?_⟩
      have t3 := t2.mono x3 g3
      cases k with
      | false => exact iteF (q3.nx_ g3 t3.r)
      | true =>
        refine iteT ⟨fun σ4 H4 => ∃ ads4 ρ4 s4, Std Z xc σ4 H4 ads4 ρ4 s4 ∧ PoS Z xc W Dn H4 ads4 (loopW tc F m ρ4 s4), ?_, ads3, ρ2, s3, t3, ?_⟩
        · rintro σ4 H4 ⟨ads4, ρ4, s4, t4, q4⟩
          exact ⟨m, Nat.lt_succ_self m, ads4, ρ4, s4, t4, q4⟩
        · exact turn_ok q3 fun ρ4 s4 q4 σ4 H4 ads4 x4 g4 r4 => ⟨ads4, ρ4, s4, ⟨g4, t3.x.mono x4, r4⟩, PoS.mono x4 q4⟩
end
end DL

/-! DL4: subscripts, slices, methods of lists, comprehensions, defs and their calls. -/
namespace DL
open PySem PySem.Spec PyProof.Rows L2

/-! ### subscripts -/
def ixD : D → D → Sto → R D
  | .tup xs, .int i, s => match atI xs i with
    | some d => .ok d s
    | none => .no
  | .fls xs, .int i, s => match atI xs i with
    | some d => .ok d s
    | none => .no
  | .loc n, .int i, s => match s[n]? with
    | some (.lst xs) => match atI xs i with
      | some d => .ok d s
      | none => .no
    | _ => .no
  | .str x, .int i, s => match atI x.cps.toList i with
    | some c => .ok (.str ⟨#[c]⟩) s
    | none => .no
  | _, _, _ => .no
theorem Rps.at_ {K : PySem.W.Frag} {H : Hp} {ads : List Addr} {vs : List V} {ds : List D} {i : Int} {d : D} (r : Rps K H ads vs ds) (e : atI ds i = some d) : ∃ v, atI vs i = some v ∧ Rp K H ads v d := by
  unfold atI at e ⊢
  rw [r.length]
  cases q : ixN ds.length i with
  | none => (rw [q] at e; cases e)
  | some j =>
    rw [q] at e
    exact r.get e
section
variable {Z : SC}
theorem op_ix : OpD Z (rIx Z.K) ixD := fun {W σ H ads s x y d e Q} g rx ry q => by
  cases ry with
  | int i =>
    cases rx with
    | @tup a xs ds h r z =>
      simp only [ixD] at q
      cases hq : atI ds i with
      | none => rw [hq] at q; exact q.elim
      | some d =>
        rw [hq] at q
        obtain ⟨v, hv, rv⟩ := r.at_ hq
        exact .inr (.inl ⟨a, xs, i, v, rfl, rfl, h, hv, q.ok g rv⟩)
    | @fls a xs ds h r z =>
      simp only [ixD] at q
      cases hq : atI ds i with
      | none => rw [hq] at q; exact q.elim
      | some d =>
        rw [hq] at q
        obtain ⟨v, hv, rv⟩ := r.at_ hq
        exact .inl ⟨a, xs, i, v, rfl, rfl, h.sq, hv, q.ok g rv⟩
    | @loc a n h =>
      obtain ⟨c, hc, k⟩ := g.cellA h
      simp only [ixD, hc] at q
      cases c with
      | lst ds =>
        obtain ⟨xs, hx, r, _⟩ := k
        simp only at q
        cases hq : atI ds i with
        | none => rw [hq] at q; exact q.elim
        | some d =>
          rw [hq] at q
          obtain ⟨v, hv, rv⟩ := r.at_ hq
          exact .inl ⟨a, xs, i, v, rfl, rfl, SqL.of hx, hv, q.ok g rv⟩
      | _ => exact q.elim
    | @str z h =>
      simp only [ixD] at q
      cases hq : atI z.cps.toList i with
      | none => rw [hq] at q; exact q.elim
      | some c =>
        rw [hq] at q
        exact .inr (.inr ⟨z, i, c, rfl, rfl, h, hq, q.ok g (.str (by show (#[c] : Array Nat).size ≤ _; simp; decide))⟩)
    | _ => exact q.elim
  | _ => cases rx <;> exact q.elim
def setIxD : D → D → D → Sto → RS → RS := fun o i v s k => .no
/-- o[i] = v -/
def putD : D → D → D → Sto → Option Sto
  | .loc n, .int i, v, s => match s[n]? with
    | some (.lst xs) => match ixN xs.length i with
      | some j => some (s.set n (.lst (xs.set j v)))
      | none => none
    | _ => none
  | _, _, _, _ => none
def sPut (o i e : EF) : SF := fun ρ s => (e ρ s).thenS ρ fun v s1 => (o ρ s1).thenS ρ fun x s2 => (i ρ s2).thenS ρ fun y s3 => match putD x y v s3 with
  | some s4 => .nx ρ s4
  | none => .no
theorem put_ok {xc : Option Xc} {W : WX} {H : Hp} {ads : List Addr} {s s' : Sto} {x y v : V} {d e f : D} {ρ : En} {σ : L2.St} {Dn : Ends} (g : Gd Z H ads s) (t : RpEn Z.K H ads xc σ ρ) (rx : Rp Z.K H ads x d) (ry : Rp Z.K H ads y e) (rv : Rp Z.K H ads v f) (hp : putD d e f s = some s')
    (q : PoS Z xc W Dn H ads (.nx ρ s')) : rSetL x y v H fun H' => Dn.nx σ H' := by
  cases rx with
  | @loc a n h =>
    cases ry with
    | int i =>
      obtain ⟨c, hc, k⟩ := g.cellA h
      simp only [putD, hc] at hp
      cases c with
      | lst ds =>
        obtain ⟨xs, hx, r, z⟩ := k
        simp only at hp
        cases hq : ixN ds.length i with
        | none => rw [hq] at hp; cases hp
        | some j =>
          rw [hq] at hp
          cases hp
          refine ⟨a, xs, i, j, rfl, rfl, hx, by rw [r.length]; exact hq, ?_⟩
          have sf : Soft (H a) := by rw [hx]; trivial
          have x1 : Xt Z.K H ads (upd H a (.lst (xs.set j v))) ads := Xt.upd sf
          have g1 := (g.put (o := .lst (xs.set j v)) (c := .lst (ds.set j f)) h ⟨_, upd_same, (r.set rv j).mono x1, by simpa using z⟩).1
          exact q σ _ ads x1 g1 (t.mono x1)
      | _ => cases hp
    | _ => cases hp
  | _ => cases hp
/-! ### slices -/
def cutG {α : Type} (xs : List α) (lo hi : Option Int) : List α := (xs.drop (HT.sIx xs.length 0 lo)).take (HT.sIx xs.length xs.length hi - HT.sIx xs.length 0 lo)
theorem Rps.cut {K : PySem.W.Frag} {H : Hp} {ads : List Addr} {vs : List V} {ds : List D} (r : Rps K H ads vs ds) (lo hi : Option Int) : Rps K H ads (cutV vs lo hi) (cutG ds lo hi) := by
  unfold cutV cutG
  rw [r.length]
  exact (r.drop _).take _
theorem cutG_length {α : Type} (xs : List α) (lo hi : Option Int) : (cutG xs lo hi).length ≤ xs.length := by
  unfold cutG
  rw [List.length_take, List.length_drop]; omega
def slD : D → Option Int → Option Int → Sto → R D
  | .tup xs, lo, hi, s => .ok (.tup (cutG xs lo hi)) s
  | .fls xs, lo, hi, s => .ok (.loc s.length) (s ++ [.lst (cutG xs lo hi)])
  | .loc n, lo, hi, s => match s[n]? with
    | some (.lst xs) => .ok (.loc s.length) (s ++ [.lst (cutG xs lo hi)])
    | _ => .no
  | _, _, _, _ => .no
def rSlD (K : PySem.W.Frag) : V → Option Int → Option Int → Hp → VK → Prop := fun x lo hi H Q => rSlL K x lo hi H Q ∨ rSlA K x lo hi H Q
theorem sl_ok {W : WX} {σ : L2.St} {H : Hp} {ads : List Addr} {s : Sto} {x : V} {d : D} {lo hi : Option Int} {Q : VK} (g : Gd Z H ads s) (r : Rp Z.K H ads x d) (q : PoE Z W σ H ads Q (slD d lo hi s)) : rSlD Z.K x lo hi H Q := by
  cases r with
  | @tup a xs ds h r z =>
    have r2 := r.cut lo hi
    have z2 := Nat.le_trans (cutG_length ds lo hi) z
    refine .inr ⟨a, xs, rfl, h, fun ⟨e1, e2⟩ => ?_, fun _ => new_tup g r2 z2 q⟩
    have e : cutV xs lo hi = xs := by
      unfold cutV
      rw [e1, e2]
      simp
    rw [e] at r2
    exact q.ok g (.tup h r2 z2)
  | @fls a xs ds h r z => exact .inl ⟨a, xs, rfl, h.sq, new_lst g (r.cut lo hi) (Nat.le_trans (cutG_length ds lo hi) z) q⟩
  | @loc a n h =>
    obtain ⟨c, hc, k⟩ := g.cellA h
    simp only [slD, hc] at q
    cases c with
    | lst ds =>
      obtain ⟨xs, hx, r, z⟩ := k
      exact .inl ⟨a, xs, rfl, SqL.of hx, new_lst g (r.cut lo hi) (Nat.le_trans (cutG_length ds lo hi) z) q⟩
    | _ => exact q.elim
  | _ => exact q.elim
def oNone : OF := fun _ s => .ok none s
def oSome (a : EF) : OF := fun ρ s => (a ρ s).bind fun d s1 => match d with
  | .int i => .ok (some i) s1
  | _ => .no
def eSl (a : EF) (l h : OF) : EF := fun ρ s => (a ρ s).bind fun d s1 => (l ρ s1).bind fun lo s2 => (h ρ s2).bind fun hi s3 => slD d lo hi s3
end
section
variable {X : Cx} {Z : SC} {xc : Option Xc} {W : WX} {a b c e o i : Expr} {fa fb fc fe fo fi : EF} {pos pos' p2 : Pos} {lo hi : Option Expr} {fl fh : OF}
theorem d_ix (ha : PE X a (dE Z xc W fa)) (hb : PE X b (dE Z xc W fb)) (hs : PlainIx b := by exact fun _ _ => rfl) (hK : X.K = Z.K := by rfl) : PE X (.Subscript a b pos) (dE Z xc W (eBin ixD fa fb)) :=
  PE_imp (pe_ix ix_seq ha hb hs) fun σ H Q h => by rw [hK]; exact op_bin op_ix h
theorem d_put (ho : PE X o (dE Z xc W fo)) (hi : PE X i (dE Z xc W fi)) (he : PE X e (dE Z xc W fe)) (ha : ∀ v, assign (.Subscript o i pos') X.env v = (do
      let ov ← holding [v] (eval o X.env); let iv ← holding [v, ov] (eval i X.env); standAt pos'; holding [v, ov, iv] (setItem ov iv v); release [v, ov, iv] []) := by intro _; rfl)
    (hs : swapsWithSole [.Subscript o i pos'] e pos.line X.env = pure false := by rfl) (hw : swappedStores [.Subscript o i pos'] e X.env = pure none := by rfl)
    (h1 : (assignEach [.Subscript o i pos'] X.env).map (·.2) = [assign (.Subscript o i pos') X.env] := by rfl) : PS X (.Assign [.Subscript o i pos'] e pos) (dS Z xc W (sPut fo fi fe)) :=
  PS_imp (ps_asg he (pg_sub ho hi set_list ha) hs hw h1) fun Dn σ H ⟨ads, ρ, s, t, q⟩ => ⟨ads, ρ, s, t, bES t q fun f s1 v H1 ads1 x1 g1 rv q1 => by
    have t1 := t.mono x1 g1
    refine ⟨ads1, ρ, s1, t1, bES t1 q1 fun d s2 x H2 ads2 x2 g2 rx q2 => ?_⟩
    have t2 := t1.mono x2 g2
    refine ⟨ads2, ρ, s2, t2, bES t2 q2 fun y s3 w H3 ads3 x3 g3 ry q3 => ?_⟩
    cases hp : putD d y f s3 with
    | none => rw [hp] at q3; exact q3.elim
    | some s4 => rw [hp] at q3; exact put_ok g3 (t2.mono x3 g3).r (rx.mono x3) ry (rv.mono (x2.trans x3)) hp q3⟩
theorem bOE {r : R (Option Int)} {k : Option Int → Sto → R D} {σ : L2.St} {H : Hp} {ads : List Addr} {Q : VK} {Q' : Option Int → Hp → Prop} (h : PoE Z W σ H ads Q (r.bind k))
    (hk : ∀ d s1 H' ads', Xt Z.K H ads H' ads' → Gd Z H' ads' s1 → PoE Z W σ H' ads' Q (k d s1) → Q' d H') : PoT Z W σ H ads Q' r := bTE h hk
theorem d_onone : PO X none (dO Z xc W oNone) := ⟨fun pins s σ H Q I ⟨ads, ρ, s0, t, q⟩ => po_none.run pins s σ H Q I (q H ads Xt.refl t.g)⟩
theorem d_osome (ha : PE X a (dE Z xc W fa)) : PO X (some a) (dO Z xc W (oSome fa)) := ⟨fun pins s σ H Q I ⟨ads, ρ, s0, t, q⟩ => (po_some ha).run pins s σ H Q I ⟨ads, ρ, s0, t, bET q fun d s1 v H1 ads1 x1 g1 r1 q1 => by
    cases r1 with
    | int i => exact ⟨i, rfl, q1 H1 ads1 Xt.refl g1⟩
    | _ => exact q1.elim⟩⟩
theorem d_sl (ha : PE X a (dE Z xc W fa)) (hl : PO X lo (dO Z xc W fl)) (hh : PO X hi (dO Z xc W fh)) (hK : X.K = Z.K := by rfl) : PE X (.Subscript a (.Slice lo hi none p2) pos) (dE Z xc W (eSl fa fl fh)) :=
  PE_imp (pe_slice (sl_list.or sl_tupA) ha hl hh) fun σ H Q ⟨ads, ρ, s, t, q⟩ => ⟨ads, ρ, s, t, bEE q fun d s1 x H1 ads1 x1 g1 r1 q1 => by
    have t1 := t.mono x1 g1
    refine ⟨ads1, ρ, s1, t1, bTE q1 fun l s2 H2 ads2 x2 g2 q2 => ?_⟩
    have t2 := t1.mono x2 g2
    refine ⟨ads2, ρ, s2, t2, bTE q2 fun h s3 H3 ads3 x3 g3 q3 => ?_⟩
    rw [hK]
    exact sl_ok g3 (r1.mono (x2.trans x3)) q3⟩
end

/-! ### methods of lists -/
def tyD (T : String) : D → Sto → Bool
  | .loc n, s => T = "list" && (match s[n]? with | some (.lst _) => true | _ => false)
  | .str _, _ => T = "str"
  | _, _ => false
def eMt (T : String) (op : D → List D → Sto → R D) (o : EF) (as : AF) : EF := fun ρ s => (o ρ s).bind fun x s1 => if tyD T x s1 then (as ρ s1).bind fun xs s2 => op x xs s2 else .no
def appD : D → List D → Sto → R D
  | .loc n, [d], s => match s[n]? with
    | some (.lst xs) => if xs.length < 100000 then .ok .non (s.set n (.lst (xs ++ [d]))) else .no
    | _ => .no
  | _, _, _ => .no
def popD : D → List D → Sto → R D
  | .loc n, [], s => match s[n]? with
    | some (.lst xs) => match xs[xs.length - 1]? with
      | some d => .ok d (s.set n (.lst xs.dropLast))
      | none => .no
    | _ => .no
  | _, _, _ => .no
def revD : D → List D → Sto → R D
  | .loc n, [], s => match s[n]? with
    | some (.lst xs) => .ok .non (s.set n (.lst xs.reverse))
    | _ => .no
  | _, _, _ => .no
section
variable {Z : SC} {xc : Option Xc} {W : WX}
theorem tyD_ok {H : Hp} {ads : List Addr} {s : Sto} {T : String} {x : V} {d : D} (g : Gd Z H ads s) (r : Rp Z.K H ads x d) (h : tyD T d s = true) : tyV Z.K T x H := by
  cases r with
  | @loc a n q =>
    obtain ⟨c, hc, k⟩ := g.cellA q
    simp only [tyD, hc, Bool.and_eq_true, decide_eq_true_eq] at h
    cases c with
    | lst ds =>
      obtain ⟨xs, hx, _⟩ := k
      exact .inl ⟨h.1, xs, SqL.of hx⟩
    | _ => exact absurd h.2 (by simp)
  | str => exact (of_decide_eq_true h : T = "str")
  | _ => exact absurd h (by simp [tyD])
theorem put_cell {H : Hp} {ads : List Addr} {s : Sto} {a : Addr} {n : Nat} {xs : List V} {ds : List D} {σ : L2.St} {Q : VK} {v : V} {d : D} {H' : Hp} (g : Gd Z H ads s) (hn : ads[n]? = some a) {o : List V} (ho : H a = some (.lst o)) (r : Rps Z.K H ads xs ds) (hl : ds.length ≤ sizeLine)
    (rv : Rp Z.K H ads v d) (q : PoE Z W σ H ads Q (.ok d (s.set n (.lst ds)))) : Q v (upd H a (.lst xs)) := by
  have sf : Soft (H a) := by rw [ho]; trivial
  have x1 : Xt Z.K H ads (upd H a (.lst xs)) ads := Xt.upd sf
  exact q.ok' x1 (g.put (c := .lst ds) hn ⟨xs, upd_same, r.mono x1, hl⟩).1 (rv.mono x1)
theorem m_app : MtD Z "list" rAppend appD := fun {W σ H ads s x xs d ds Q} g rx rs q => by
  cases rx with
  | @loc a n h =>
    cases rs with
    | nil => exact q.elim
    | cons r1 rs => cases rs with
      | cons _ _ => exact q.elim
      | nil =>
        obtain ⟨c, hc, k⟩ := g.cellA h
        simp only [appD, hc] at q
        cases c with
        | lst ds =>
          obtain ⟨ys, hy, r, z⟩ := k
          simp only at q
          split at q
          · rename_i hl
            have hl2 : ys.length < sizeLine := by rw [r.length]; exact Nat.lt_of_lt_of_le hl (by decide)
            exact ⟨a, ys, _, rfl, rfl, hy, hl2, put_cell (H' := H) g h hy (r.append (.cons r1 .nil)) (by simp; rw [← r.length]; omega) .non q⟩
          · exact q.elim
        | _ => exact q.elim
  | _ => cases rs <;> exact q.elim
theorem rps_last {K : PySem.W.Frag} {H : Hp} {ads : List Addr} {vs : List V} {ds : List D} (r : Rps K H ads vs ds) : Rps K H ads vs.dropLast ds.dropLast := by
  rw [List.dropLast_eq_take, List.dropLast_eq_take, r.length]
  exact r.take _
theorem m_pop : MtD Z "list" rPop popD := fun {W σ H ads s x xs d ds Q} g rx rs q => by
  cases rx with
  | @loc a n h =>
    cases rs with
    | cons r1 rs => exact q.elim
    | nil =>
      obtain ⟨c, hc, k⟩ := g.cellA h
      simp only [popD, hc] at q
      cases c with
      | lst ds =>
        obtain ⟨ys, hy, r, z⟩ := k
        simp only at q
        cases hq : ds[ds.length - 1]? with
        | none => rw [hq] at q; exact q.elim
        | some d =>
          rw [hq] at q
          obtain ⟨v, hv, rv⟩ := r.get hq
          exact ⟨a, ys, v, rfl, rfl, hy, by rw [r.length]; exact hv, put_cell (H' := H) g h hy (rps_last r) (by simp; omega) rv q⟩
      | _ => exact q.elim
  | _ => cases rs <;> exact q.elim
theorem m_rev : MtD Z "list" rReverse revD := fun {W σ H ads s x xs d ds Q} g rx rs q => by
  cases rx with
  | @loc a n h =>
    cases rs with
    | cons r1 rs => exact q.elim
    | nil =>
      obtain ⟨c, hc, k⟩ := g.cellA h
      simp only [revD, hc] at q
      cases c with
      | lst ds =>
        obtain ⟨ys, hy, r, z⟩ := k
        exact ⟨a, ys, rfl, rfl, hy, put_cell (H' := H) g h hy r.reverse (by simpa using z) .non q⟩
      | _ => exact q.elim
  | _ => cases rs <;> exact q.elim
end
section
variable {X : Cx} {Z : SC} {xc : Option Xc} {W : WX} {o e : Expr} {es : List Expr} {fo : EF} {fs : AF} {T id : String} {name : Str} {apos cpos : Pos} {r : V → List V → Hp → VK → Prop} {op : D → List D → Sto → R D}
theorem d_mt0 (pa : PlainAttrs T) (slot : Slot T name id) (hty : typeOf (.builtin id) = pure (.type "method_descriptor")) (hm : MtR X id r) (hd : MtD Z T r op) (ho : PE X o (dE Z xc W fo)) (hK : X.K = Z.K := by rfl)
    (hbase : attributeBase o name X.env (eval o X.env) = eval o X.env := by rfl) (hline : (apos.endLine == cpos.line) = true := by rfl) : PE X (.Call (.Attribute o name apos) [] [] cpos) (dE Z xc W (eMt T op fo aNil)) :=
  PE_imp (pe_bm0 pa slot hty hm ho hbase hline) fun σ H Q ⟨ads, ρ, s, t, q⟩ => ⟨ads, ρ, s, t, bEE q fun d s1 x H1 ads1 x1 g1 r1 q1 => by
    cases ht : tyD T d s1 with
    | false => simp only [ht, if_false] at q1; exact q1.elim
    | true =>
      simp only [ht, if_true] at q1
      rw [hK]
      exact ⟨tyD_ok g1 r1 ht, hd g1 r1 .nil q1⟩⟩
theorem d_mt (pa : PlainAttrs T) (slot : Slot T name id) (hty : typeOf (.builtin id) = pure (.type "method_descriptor")) (hm : MtR X id r) (hd : MtD Z T r op) (ho : PE X o (dE Z xc W fo)) (ha : PA X (e :: es) (dA Z xc W fs)) (hK : X.K = Z.K := by rfl)
    (hbase : attributeBase o name X.env (eval o X.env) = eval o X.env := by rfl) (hfew : ((backTo cpos (starEach (e :: es) X.env)).all (fun x => !x.1) && (backToKw cpos (keywordEach [] X.env)).all (fun x => x.1.isSome) && decide ((e :: es).length + ([] : List Keyword).length + (if ([] : List Keyword).isEmpty then 0 else 1) < 30)) = true := by rfl)
    (hline : (apos.endLine == cpos.line) = true := by rfl) (hs : starEach (e :: es) X.env = (false, eval e X.env) :: starEach es X.env := by rfl) (hplain : (backTo cpos (starEach es X.env)).any (·.1) = false := by rfl) : PE X (.Call (.Attribute o name apos) (e :: es) [] cpos) (dE Z xc W (eMt T op fo fs)) :=
  PE_imp (pe_bm pa slot hty hm ho ha hbase hfew hline hs hplain) fun σ H Q ⟨ads, ρ, s, t, q⟩ => ⟨ads, ρ, s, t, bEE q fun d s1 x H1 ads1 x1 g1 r1 q1 => by
    cases ht : tyD T d s1 with
    | false => simp only [ht, if_false] at q1; exact q1.elim
    | true =>
      simp only [ht, if_true] at q1
      rw [hK]
      exact ⟨tyD_ok g1 r1 ht, ads1, ρ, s1, t.mono x1 g1, bAE q1 fun ds s2 xs H2 ads2 x2 g2 r2 q2 => hd g2 (r1.mono x2) r2 q2⟩⟩
end
end DL

/-! DL5: comprehensions, defs and their calls. -/
namespace DL
open PySem PySem.Spec PyProof.Rows L2

/-! ### comprehensions -/
def wipeD (ρ : En) : List Nat → En
  | [] => ρ
  | v :: vs => (wipeD ρ vs).set v .un
theorem RpEn.wipe {K : PySem.W.Frag} {H : Hp} {ads : List Addr} {xc : Option Xc} {σ : L2.St} {ρ : En} (h : RpEn K H ads xc σ ρ) : ∀ vs : List Nat, RpEn K H ads xc (L2.wipe σ vs) (wipeD ρ vs)
  | [] => h
  | v :: vs => RpEn.set (RpEn.wipe h vs) (o := none) (l := .un) trivial
def SameSt (vs : List Nat) (σ σ' : L2.St) : Prop := σ'.length = σ.length ∧ ∀ j, j ∉ vs → σ'[j]? = σ[j]?
theorem wipe_in {σ : L2.St} {j : Nat} : ∀ {vs : List Nat}, j ∈ vs → j < σ.length → (L2.wipe σ vs)[j]? = some none
  | [], h, _ => by cases h
  | v :: vs, h, hj => by
    unfold L2.wipe
    by_cases e : v = j
    · subst e
      rw [List.getElem?_set_self (by rw [wipe_length]; exact hj)]
    · rw [List.getElem?_set_ne e]
      rcases List.mem_cons.mp h with h | h
      · exact absurd h.symm e
      · exact wipe_in h hj
theorem wipe_same {vs : List Nat} {σ σ' : L2.St} (h : SameSt vs (L2.wipe σ vs) σ') : L2.wipe σ' vs = L2.wipe σ vs := by
  apply List.ext_getElem?
  intro j
  have hl : σ'.length = σ.length := by rw [h.1, wipe_length]
  by_cases hj : j < σ.length
  · by_cases hv : j ∈ vs
    · rw [wipe_in hv hj, wipe_in hv (by rw [hl]; exact hj)]
    · rw [wipe_out hv, h.2 j hv]
  · rw [List.getElem?_eq_none (by rw [wipe_length]; omega), List.getElem?_eq_none (by rw [wipe_length]; omega)]
/-- a target that stores the names at vs alone -/
def dGw (Z : SC) (xc : Option Xc) (vs : List Nat) (g : GF) : TG := fun v σ H Q => ∃ ads ρ d, RpEn Z.K H ads xc σ ρ ∧ Rp Z.K H ads v d ∧ ∃ ρ', g d ρ = some ρ' ∧ ∀ σ', RpEn Z.K H ads xc σ' ρ' → SameSt vs σ σ' → Q σ' H
def dGsw (Z : SC) (xc : Option Xc) (vs : List Nat) (g : GFs) : TGs := fun v σ H Q => ∃ ads ρ ds, RpEn Z.K H ads xc σ ρ ∧ Rps Z.K H ads v ds ∧ ∃ ρ', g ds ρ = some ρ' ∧ ∀ σ', RpEn Z.K H ads xc σ' ρ' → SameSt vs σ σ' → Q σ' H
open Classical in
/-- the turns of a comprehension over what S tells; the new list stands in the cell n -/
noncomputable def lcF (S : Src) (g : GF) (t : TF) (e : EF) (vs : List Nat) (n : Nat) : List D → En → Sto → R Unit
  | [], _, s => if S.ok s then .ok () s else .no
  | x :: xs, ρ, s => if S.ok s then
      match g x (wipeD ρ vs) with
      | none => .no
      | some ρ1 => match t ρ1 s with
        | .ok false s1 => lcF S g t e vs n xs ρ s1
        | .ok true s1 => match e ρ1 s1 with
          | .ok d s2 => match s2[n]? with
            | some (.lst acc) => if acc.length < 100000 then lcF S g t e vs n xs ρ (s2.set n (.lst (acc ++ [d]))) else .no
            | _ => .no
          | _ => .no
        | _ => .no
    else .no
noncomputable def eLc (c : CF) (g : GF) (t : TF) (e : EF) (vs : List Nat) : EF := fun ρ s => (c ρ s).bind fun S s1 => (lcF S g t e vs s1.length S.list ρ (s1 ++ [.lst []])).bind fun _ s2 => .ok (.loc s1.length) s2
def tYesF : TF := fun _ s => .ok true s
abbrev W0 : WX := fun _ _ _ _ => False
section
variable {X : Cx} {Z : SC} {xc : Option Xc} {W : WX} {a b c e o i tg : Expr} {fa fb fc fe fo fi : EF} {pos pos' p2 : Pos}
theorem d_gnameW (i : Nat) {vs : List Nat} {x : Str} (hN : X.N.Nodup) (hv : i ∈ vs := by decide) (hi : X.N[i]? = some x := by rfl) (hx : Loc X.env.scope x := by first | exact Or.inl rfl | exact Or.inr rfl) (hf : X.fn x = true ∨ X.env.scope.names.lookup x = some .local := by first | exact .inl rfl | exact .inr rfl | assumption) : PG X (.Name x pos) (dGw Z xc vs (gN i)) :=
  PG_imp (pg_name (i := i) hN hi hx hf) fun v σ H Q ⟨ads, ρ, d, r, rd, ρ', e, k⟩ => k _ (by cases e; exact r.set rd) ⟨by simp, fun j hj => List.getElem?_set_ne fun (e : i = j) => hj (by rw [← e]; exact hv)⟩
theorem d_gnilW {vs : List Nat} : PGs X [] (dGsw Z xc vs gsN) := PGs_imp pgs_nil fun v σ H Q ⟨ads, ρ, ds, r, rd, ρ', e, k⟩ => by
  unfold gsN at e
  cases rd with
  | nil => cases e; exact ⟨rfl, k _ r ⟨rfl, fun _ _ => rfl⟩⟩
  | cons _ _ => simp at e
theorem d_gconsW {vs : List Nat} {es : List Expr} {g : GF} {gs : GFs} (h1 : PG X e (dGw Z xc vs g)) (h2 : PGs X es (dGsw Z xc vs gs))
    (hs : (assignEach (e :: es) X.env).map (·.2) = assign e X.env :: (assignEach es X.env).map (·.2) := by rfl) : PGs X (e :: es) (dGsw Z xc vs (gsC g gs)) :=
  PGs_imp (pgs_cons h1 h2 hs) fun v σ H Q ⟨ads, ρ, ds, r, rd, ρ', e, k⟩ => by
    cases rd with
    | nil => cases e
    | @cons v vs d ds r1 rs =>
      have e : (g d ρ).bind (fun ρ1 => gs ds ρ1) = some ρ' := e
      cases q : g d ρ with
      | none => (rw [q] at e; cases e)
      | some ρ1 =>
        rw [q] at e
        exact ⟨v, vs, rfl, ads, ρ, d, r, r1, ρ1, q, fun σ1 k1 m1 => ⟨ads, ρ1, ds, k1, rs, ρ', e, fun σ2 k2 m2 => k σ2 k2 ⟨m2.1.trans m1.1, fun j hj => (m2.2 j hj).trans (m1.2 j hj)⟩⟩⟩
theorem d_gtupW {vs : List Nat} {es : List Expr} {k : Nat} {gs : GFs} {n : Nat} (hc : X.calm = true) (hK : X.K = Z.K) (h : PGs X es (dGsw Z xc vs gs)) (hg : ∀ ds ρ ρ', gs ds ρ = some ρ' → ds.length = n)
    (hn : (assignEach es X.env).length = n := by rfl) (hst : (assignEach es X.env).findIdx? (·.1) = none := by rfl) : PG X (.Tuple es k pos) (dGw Z xc vs (gT gs)) :=
  PG_imp (pg_tup hc h hn hst) fun v σ H Q ⟨ads, ρ, d, r, rd, ρ', e, k⟩ => by
    cases rd with
    | @tup a xs ds q t z => exact ⟨a, xs, rfl, by rw [hK]; exact q, by rw [t.length]; exact hg _ _ _ e, ads, ρ, ds, r, t, ρ', e, k⟩
    | _ => cases e
theorem d_tsnil : PTs X [] (dT Z xc W tYesF) := ⟨fun pins s σ H Q I ⟨ads, ρ, s1, t, q⟩ => pts_nil.run pins s σ H Q I (q H ads Xt.refl t.g)⟩
theorem d_tsone {tc : TF} (h : PT X c (dT Z xc W tc)) : PTs X [c] (dT Z xc W tc) := pts_one h
theorem lcF_ok {S : Src} {g : GF} {t : TF} {e : EF} {vs : List Nat} {n : Nat} {xs : List D} {ρ : En} {s : Sto} {k : Unit → Sto → R D} {σ : L2.St} {H : Hp} {ads : List Addr} {Q : VK} (h : PoE Z W σ H ads Q ((lcF S g t e vs n xs ρ s).bind k)) : S.ok s ∧
    ((xs = [] ∧ PoE Z W σ H ads Q (k () s)) ∨ ∃ x r ρ1, xs = x :: r ∧ g x (wipeD ρ vs) = some ρ1 ∧ ((∃ s1, t ρ1 s = .ok false s1 ∧ PoE Z W σ H ads Q ((lcF S g t e vs n r ρ s1).bind k)) ∨
      ∃ s1 d s2 acc, t ρ1 s = .ok true s1 ∧ e ρ1 s1 = .ok d s2 ∧ s2[n]? = some (.lst acc) ∧ acc.length < 100000 ∧ PoE Z W σ H ads Q ((lcF S g t e vs n r ρ (s2.set n (.lst (acc ++ [d])))).bind k))) := by
  cases xs with
  | nil =>
    unfold lcF at h
    by_cases hs : S.ok s
    · rw [if_pos hs] at h
      exact ⟨hs, .inl ⟨rfl, h⟩⟩
    · rw [if_neg hs] at h
      exact h.elim
  | cons x r =>
    unfold lcF at h
    by_cases hs : S.ok s
    · rw [if_pos hs] at h
      refine ⟨hs, .inr ⟨x, r, ?_⟩⟩
      cases e0 : g x (wipeD ρ vs) with
      | none => simp only [e0] at h; exact h.elim
      | some ρ1 =>
        simp only [e0] at h
        refine ⟨ρ1, rfl, rfl, ?_⟩
        cases e1 : t ρ1 s with
        | no => simp only [e1] at h; exact h.elim
        | ex => simp only [e1] at h; exact h.elim
        | ok b s1 =>
          cases b with
          | false => simp only [e1] at h; exact .inl ⟨s1, rfl, h⟩
          | true =>
            simp only [e1] at h
            cases e2 : e ρ1 s1 with
            | no => simp only [e2] at h; exact h.elim
            | ex => simp only [e2] at h; exact h.elim
            | ok d s2 =>
              simp only [e2] at h
              cases e3 : s2[n]? with
              | none => simp only [e3] at h; exact h.elim
              | some c =>
                simp only [e3] at h
                cases c with
                | lst acc =>
                  simp only at h
                  by_cases hl : acc.length < 100000
                  · rw [if_pos hl] at h
                    exact .inr ⟨s1, d, s2, acc, rfl, e2, e3, hl, h⟩
                  · rw [if_neg hl] at h; exact h.elim
                | _ => exact h.elim
    · rw [if_neg hs] at h
      exact h.elim
theorem lc_ok {cf : CF} {g : GF} {t : TF} {e : EF} {vs : List Nat} {σ : L2.St} {H : Hp} {Q : VK} (h : dE Z none W (eLc cf g t e vs) σ H Q) : tLc (dC Z none W cf) (dGw Z none vs g) (dT Z none W0 t) (dE Z none W0 e) vs σ H Q := by
  obtain ⟨ads, ρ, s, st, q⟩ := h
  refine ⟨ads, ρ, s, st, ?_⟩
  have q : PoE Z W σ H ads Q ((cf ρ s).bind fun S s1 => (lcF S g t e vs s1.length S.list ρ (s1 ++ [.lst []])).bind fun _ s2 => .ok (.loc s1.length) s2) := q
  cases hc : cf ρ s with
  | no => rw [hc] at q; exact q
  | ex => rw [hc] at q; exact q
  | ok S s1 =>
    rw [hc] at q
    intro J H1 ads1 x1 g1 so jo D hD
    have q1 : PoE Z W σ H1 ads1 Q ((lcF S g t e vs s1.length S.list ρ (s1 ++ [.lst []])).bind fun _ s2 => .ok (.loc s1.length) s2) := PoE.mono x1 q
    have x2 : Xt Z.K H1 ads1 (upd H1 D (.lst [])) (ads1 ++ [D]) := Xt.updNew (soft_none hD)
    have g2 : Gd Z (upd H1 D (.lst [])) (ads1 ++ [D]) (s1 ++ [.lst []]) := g1.alloc hD ⟨[], upd_same, .nil, Nat.zero_le _⟩
    have r1 := st.r.mono (x1.trans x2)
    refine ⟨fun i m H2 => m = S.list.length - i ∧ i ≤ S.list.length ∧ ∃ ads2 s2, Xt Z.K (upd H1 D (.lst [])) (ads1 ++ [D]) H2 ads2 ∧ Gd Z H2 ads2 s2 ∧
      PoE Z W σ H2 ads2 Q ((lcF S g t e vs s1.length (S.list.drop i) ρ s2).bind fun _ s2 => .ok (.loc s1.length) s2), ⟨S.list.length, by simp, Nat.zero_le _, ads1 ++ [D], s1 ++ [.lst []], Xt.refl, g2, by rw [List.drop_zero]; exact q1.mono x2⟩, ?_⟩
    rintro i m H2 ⟨rfl, hi, ads2, s2, x3, g3, q2⟩
    have hn : ads2[s1.length]? = some D := x3.at_ (by rw [← g1.len]; simp)
    obtain ⟨so2, q2⟩ := lcF_ok q2
    obtain ⟨j1, j2⟩ := jo i H2 ads2 s2 (x2.trans x3) g3 so2
    by_cases hlt : i < S.list.length
    · obtain ⟨jg, jy⟩ := j2 hlt
      have ed := List.drop_eq_getElem_cons hlt
      rcases q2 with ⟨e, _⟩ | ⟨d, r, ρ3, e0, eg, q2⟩
      · rw [ed] at e; cases e
      rw [ed] at e0
      obtain ⟨e1, e2⟩ := List.cons.inj e0
      subst e1 e2
      refine .inr ⟨jg, fun H4 => ∃ ads4 s4, Xt Z.K (upd H1 D (.lst [])) (ads1 ++ [D]) H4 ads4 ∧ Gd Z H4 ads4 s4 ∧
        PoE Z W σ H4 ads4 Q ((lcF S g t e vs s1.length (S.list.drop (i + 1)) ρ s4).bind fun _ s2 => .ok (.loc s1.length) s2), ?_, ?_⟩
      · rintro H4 ⟨ads4, s4, x4, g4, q4⟩
        exact ⟨S.list.length - (i + 1), by omega, rfl, hlt, ads4, s4, x4, g4, q4⟩
      · intro y H3 yl
        obtain ⟨ads3, x4, g4, d, hd, rd⟩ := jy y H3 yl
        have ed : d = S.list[i] := by
          have := List.getElem?_eq_getElem hlt
          rw [hd] at this; exact Option.some.inj this
        subst ed
        have x34 := x3.trans x4
        have r2 := r1.mono x34
        refine ⟨ads3, _, _, r2.wipe vs, rd, ρ3, eg, fun σ3 r3 sm => ⟨wipe_same sm, ?_⟩⟩
        refine ⟨ads3, ρ3, s2, ⟨g4, trivial, r3⟩, ?_⟩
        rcases q2 with ⟨s3, ht, q3⟩ | ⟨s3, d, s4, acc, ht, he, ha, hl, q3⟩
        · rw [ht]
          intro H5 ads5 x5 g5
          exact iteF ⟨ads5, s3, x34.trans x5, g5, q3.mono (x4.trans x5)⟩
        · rw [ht]
          intro H5 ads5 x5 g5
          refine iteT ⟨ads5, ρ3, s3, ⟨g5, trivial, r3.mono x5⟩, ?_⟩
          rw [he]
          intro v H6 ads6 x6 g6 rv
          have x46 := (x4.trans x5).trans x6
          have hn6 := x46.at_ hn
          have k := g6.ok _ _ _ hn6 ha
          obtain ⟨xs, hx, rx, z⟩ := k
          have sf : Soft (H6 D) := by rw [hx]; trivial
          have x7 : Xt Z.K H6 ads6 (upd H6 D (.lst (xs ++ [v]))) ads6 := Xt.upd sf
          refine ⟨xs, hx, by rw [rx.length]; exact Nat.lt_of_lt_of_le hl (by decide), ads6, _, ((x3.trans x46).trans x7), (g6.put (c := .lst (acc ++ [d])) hn6 ⟨_, upd_same, ((rx.append (.cons rv .nil)).mono x7), ?_⟩).1, q3.mono (x46.trans x7)⟩
          simp
          exact Nat.lt_of_lt_of_le hl (by decide)
    · have e : i = S.list.length := by omega
      subst e
      rcases q2 with ⟨_, q2⟩ | ⟨d, r, ρ3, e, _⟩
      · exact .inl ⟨j1 (Nat.le_refl _), q2.ok g3 (.loc hn)⟩
      · rw [List.drop_length] at e; cases e
theorem d_lc {vs : List Nat} {elt iter : Expr} {ifs : List Expr} {scope : Scope} {own : List (Str × Nat)} {cf : CF} {g : GF} {t : TF} (hc : X.calm = true) (hN : X.N.Nodup) (hi : PI X tg iter (dC Z none W cf)) (ok : BlkOk X.N X.env.scope scope own)
    (hg : ∀ (s : Shared) (H : Hp) (C : Addr) (cl : List (Str × Addr)) (fp : List Addr), PG (X.blk s H scope (compEnvC scope cl C X.env) fp) tg (dGw Z none vs g))
    (ht : ∀ (s : Shared) (H : Hp) (C : Addr) (cl : List (Str × Addr)) (fp : List Addr), PTs (X.blk s H scope (compEnvC scope cl C X.env) fp) ifs (dT Z none W0 t))
    (he : ∀ (s : Shared) (H : Hp) (C : Addr) (cl : List (Str × Addr)) (fp : List Addr), PE (X.blk s H scope (compEnvC scope cl C X.env) fp) elt (dE Z none W0 fe)) (hvs : own.map (·.2) = vs := by rfl) (hs : ∀ x, foldedSetIterable iter X.env x = pure x := by intro _; rfl) :
    PE X (.ListComp elt [⟨tg, iter, ifs, 0⟩] scope pos) (dE Z none W (eLc cf g t fe vs)) := by
  subst hvs
  exact PE_imp (pe_lc hc hN hi ok hg ht he hs) fun σ H Q h => lc_ok h
/-- name = [..] on one line -/
theorem d_setLc (i : Nat) {vs : List Nat} {y : Str} {py spos : Pos} {elt iter : Expr} {ifs : List Expr} {scope : Scope} {own : List (Str × Nat)} {cf : CF} {g : GF} {t : TF} (hc : X.calm = true) (hN : X.N.Nodup)
    (hsw : swapsWith (.ListComp elt [⟨tg, iter, ifs, 0⟩] scope pos) (some (.Name y py)) spos.line X.env = pure true) (hi : PI X tg iter (dC Z none W cf)) (ok : BlkOk X.N X.env.scope scope own)
    (hg : ∀ (s : Shared) (H : Hp) (C : Addr) (cl : List (Str × Addr)) (fp : List Addr), PG (X.blk s H scope (compEnvC scope cl C X.env) fp) tg (dGw Z none vs g))
    (ht : ∀ (s : Shared) (H : Hp) (C : Addr) (cl : List (Str × Addr)) (fp : List Addr), PTs (X.blk s H scope (compEnvC scope cl C X.env) fp) ifs (dT Z none W0 t))
    (he : ∀ (s : Shared) (H : Hp) (C : Addr) (cl : List (Str × Addr)) (fp : List Addr), PE (X.blk s H scope (compEnvC scope cl C X.env) fp) elt (dE Z none W0 fe)) (hy : X.N[i]? = some y := by rfl) (hyl : X.env.scope.names.lookup y = some .local := by rfl) (hvs : own.map (·.2) = vs := by rfl) (hs : ∀ x, foldedSetIterable iter X.env x = pure x := by intro _; rfl) :
    PS X (.Assign [.Name y py] (.ListComp elt [⟨tg, iter, ifs, 0⟩] scope pos) spos) (dS Z none W (sSet i (eLc cf g t fe vs))) :=
  by
  subst hvs
  exact PS_imp (ps_setLc hc hN hy hyl hsw hi ok hg ht he hs) fun Dn σ H ⟨ads, ρ, s, t, q⟩ => lc_ok (Q := fun x H1 => gName i x σ H1 Dn.nx) ⟨ads, ρ, s, t, bES t q fun d s1 v H1 ads1 x1 g1 r1 q1 => q1.nx_ g1 ((t.r.mono x1).set r1)⟩
end

/-! ### defs -/
mutual
def D.flat : D → Bool
  | .loc _ => false
  | .tup xs => flats xs
  | .fls xs => flats xs
  | _ => true
def flats : List D → Bool
  | [] => true
  | d :: ds => d.flat && flats ds
end
open Classical in
/-- what was made in a call and is not told is forgotten -/
noncomputable def trimR (s : Sto) : R D → R D
  | .ok d s' => if d.flat = true ∧ s'.take s.length = s then .ok d s else .ok d s'
  | .ex e s' => if flats (e.fs.map (·.2)) = true ∧ s'.take s.length = s then .ex e s else .ex e s'
  | .no => .no
def endR : RS → R D
  | .nx _ s => .ok .non s
  | .rt d s => .ok d s
  | .ex e _ s => .ex e s
  | _ => .no
/-- np parameters, nn names -/
noncomputable def fnD (np nn : Nat) (F : SF) : List D → Sto → R D := fun ds s => if ds.length = np then trimR s (endR (F (ds.map .d ++ List.replicate (nn - np) .un) s)) else .no
def spD (Z : SC) (F : List D → Sto → R D) : Sp := fun vs H Q E => ∃ ads s ds, Gd Z H ads s ∧ Rps Z.K H ads vs ds ∧ PoE Z (fun c x _ H' => E c x H') [] H ads Q (F ds s)
section
variable {Z : SC} {K : PySem.W.Frag} {H H' : Hp} {ads ads' l : List Addr} {s s' : Sto} {v : V} {d : D} {vs ws : List V} {ds : List D}
mutual
theorem Rp.flat : ∀ {v : V} {d : D}, d.flat = true → Rp K H ads' v d → Rp K H ads v d
  | _, _, _, .non => .non
  | _, _, _, .bl b => .bl b
  | _, _, _, .int i => .int i
  | _, _, _, .str h => .str h
  | _, _, h, .tup a r z => .tup a (Rps.flat (by simpa [D.flat] using h) r) z
  | _, _, h, .fls a r z => .fls a (Rps.flat (by simpa [D.flat] using h) r) z
  | _, _, h, .loc a => by simp [D.flat] at h
theorem Rps.flat : ∀ {vs : List V} {ds : List D}, flats ds = true → Rps K H ads' vs ds → Rps K H ads vs ds
  | _, _, _, .nil => .nil
  | _, _, h, .cons r t => by
    simp [flats] at h
    exact .cons (Rp.flat h.1 r) (Rps.flat h.2 t)
end
mutual
theorem Rp.shrink {H0 : Hp} : ∀ {v w : V} {d : D}, Rp K H0 ads w d → Rp K H (ads ++ l) v d → Rp K H ads v d
  | _, _, _, _, .non => .non
  | _, _, _, _, .bl b => .bl b
  | _, _, _, _, .int i => .int i
  | _, _, _, _, .str h => .str h
  | _, _, _, .tup _ r0 _, .tup a r z => .tup a (Rps.shrink r0 r) z
  | _, _, _, .fls _ r0 _, .fls a r z => .fls a (Rps.shrink r0 r) z
  | _, _, _, .loc a0, .loc a => .loc (by
    rw [List.getElem?_append_left (List.getElem?_eq_some_iff.mp a0).1] at a
    exact a)
theorem Rps.shrink {H0 : Hp} : ∀ {vs ws : List V} {ds : List D}, Rps K H0 ads ws ds → Rps K H (ads ++ l) vs ds → Rps K H ads vs ds
  | _, _, _, _, .nil => .nil
  | _, _, _, .cons r0 t0, .cons r t => .cons (Rp.shrink r0 r) (Rps.shrink t0 t)
end
theorem CellOk.shrink {H0 : Hp} {a : Addr} {c : Cell} (h0 : CellOk Z H0 ads a c) (h : CellOk Z H (ads ++ l) a c) : CellOk Z H ads a c := by
  cases c with
  | lst ds =>
    obtain ⟨_, _, r0, _⟩ := h0
    obtain ⟨xs, hx, r, z⟩ := h
    exact ⟨xs, hx, r0.shrink r, z⟩
  | dK ds =>
    obtain ⟨_, _, r0, _⟩ := h0
    obtain ⟨xs, hx, r, z⟩ := h
    exact ⟨xs, hx, ⟨r.1, r0.2.shrink r.2⟩, z⟩
  | ins c fs =>
    obtain ⟨_, _, _, _, _, r0⟩ := h0
    obtain ⟨C, dx, xs, h1, hx, r⟩ := h
    exact ⟨C, dx, xs, h1, hx, ⟨r.1, r0.2.shrink r.2⟩⟩
theorem Gd.trim (g0 : Gd Z H ads s) (x : Xt Z.K H ads H' ads') (g : Gd Z H' ads' s') (e : s'.take s.length = s) : Gd Z H' ads s ∧ Xt Z.K H ads H' ads := by
  obtain ⟨l, rfl⟩ := x.pre
  refine ⟨⟨g0.len, g0.nd, fun n a c ha hc => ?_⟩, ⟨x.tup, x.fzl, x.xd, [], by simp⟩⟩
  have hn := (List.getElem?_eq_some_iff.mp ha).1
  have ha' : (ads ++ l)[n]? = some a := by rw [List.getElem?_append_left hn]; exact ha
  have hc' : s'[n]? = some c := by
    have q : (s'.take s.length)[n]? = some c := by rw [e]; exact hc
    rw [List.getElem?_take_of_lt (by rw [← g0.len]; exact hn)] at q
    exact q
  exact (g0.ok n a c ha hc).shrink (g.ok n a c ha' hc')
theorem trim_ok {W : WX} {σ : L2.St} {Q : VK} {r : R D} (g0 : Gd Z H ads s) (h : PoE Z W σ H ads Q (trimR s r)) : PoE Z W σ H ads Q r := by
  cases r with
  | no => exact h
  | ok d s' =>
    unfold trimR at h
    by_cases hc : d.flat = true ∧ s'.take s.length = s
    · simp only [hc, and_self, if_true] at h
      intro v H' ads' x g rv
      obtain ⟨g2, x2⟩ := g0.trim x g hc.2
      exact h v H' ads x2 g2 (rv.flat hc.1)
    · simp only [hc, if_false] at h
      exact h
  | ex e s' =>
    unfold trimR at h
    by_cases hc : flats (e.fs.map (·.2)) = true ∧ s'.take s.length = s
    · simp only [hc, and_self, if_true] at h
      intro c y H' ads' x g xr
      obtain ⟨g2, x2⟩ := g0.trim x g hc.2
      obtain ⟨C, h1, h2, dd, fs, h3, h4, h5, h6⟩ := xr
      exact h c y H' ads x2 g2 ⟨C, h1, h2, dd, fs, h3, h4, h5, h6.flat hc.1⟩
    · simp only [hc, if_false] at h
      exact h
theorem start_ok {xc : Option Xc} (r : Rps K H ads vs ds) (N : List Str) (np : Nat) (h : ds.length = np) : RpEn K H ads xc (L2.start N vs) (ds.map .d ++ List.replicate (N.length - np) .un) := by
  subst h
  unfold L2.start
  have hl := r.length
  refine ⟨by simp [hl], fun i o t ho ht => ?_⟩
  by_cases hi : i < vs.length
  · rw [List.getElem?_append_left (by simpa using hi)] at ho
    rw [List.getElem?_append_left (by simpa using hl ▸ hi)] at ht
    rw [List.getElem?_map] at ho ht
    cases q : ds[i]? with
    | none => rw [q] at ht; cases ht
    | some d =>
      rw [q] at ht
      cases ht
      obtain ⟨v, hv, rv⟩ := r.get q
      rw [hv] at ho
      cases ho
      exact rv
  · rw [List.getElem?_append_right (by simp; omega)] at ht
    rw [List.getElem?_replicate] at ht
    split at ht
    · cases ht
      cases o <;> trivial
    · cases ht
end
section
variable {P : Program} {w : World} {Z : SC} {mg : Str → Option Value} {base : Heap}
theorem sp_len {np nn : Nat} {F : SF} {ps : List Str} (hp : ps.length = np) (vs : List V) (H : Hp) (Q : VK) (E : XK) (h : spD Z (fnD np nn F) vs H Q E) : vs.length = ps.length := by
  obtain ⟨ads, s, ds, g, r, q⟩ := h
  unfold fnD at q
  by_cases e : ds.length = np
  · rw [r.length, e, hp]
  · rw [if_neg e] at q
    exact q.elim
theorem body_ok {np : Nat} {F : SF} {N : List Str} {vs : List V} {H : Hp} {Q : VK} {E : XK} (h : spD Z (fnD np N.length F) vs H Q E) : dS Z none (fun c x _ H' => E c x H') F { nx := fun _ H' => Q .non H', rt := Q } (L2.start N vs) H := by
  obtain ⟨ads, s, ds, g, r, q⟩ := h
  unfold fnD at q
  by_cases e : ds.length = np
  · rw [if_pos e] at q
    have q := trim_ok g q
    have rr := start_ok (xc := none) r N np e
    refine ⟨ads, _, s, ⟨g, trivial, rr⟩, ?_⟩
    generalize F _ s = z at q
    cases z with
    | nx ρ s1 => exact fun σ' H' ads' x g _ => q .non H' ads' x g .non
    | rt d s1 => exact q
    | ex e ρ s1 => exact fun c y σ' H' ads' x g xr _ => q c y H' ads' x g xr
    | bk => exact q.elim
    | ct => exact q.elim
    | no => exact q.elim
  · rw [if_neg e] at q
    exact q.elim
/-- a def of the text does what its body's function says -/
theorem fn_ok {x qual : Str} {st : Stmt} {f : Addr} {fd : FuncData} {N ps : List Str} {k : Nat} {F : SF} (Fn : Fun Z.K x qual st f fd) (S : FnScope N ps (defScope st))
    (hb : ∀ (cdv : Value) (A : Around) (outer : List Env) (s : Shared) (H : Hp) (E : XK), Room k (A.deeper (envOfC qual (defScope st) s.heap.objs.size f cdv)) →
      Takes (cxOf (L2.CX P w) P w Z.K mg base N qual (defScope st) f cdv A outer s H E) (fun c y _ H' => E c y H') →
      PSs (cxOf (L2.CX P w) P w Z.K mg base N qual (defScope st) f cdv A outer s H E) (defBody st) (dS Z none (fun c y _ H' => E c y H') F)) : FnOk P w Z.K mg base (L2.CX P w) (k + 1) f fd ps (spD Z (fnD ps.length N.length F)) :=
  Fn.okX S (sp_len rfl) fun cdv A outer s H vs Q E hr h => ⟨_, hb cdv A outer s H E hr (takes_of rfl rfl rfl rfl), body_ok h⟩
/-- a function that says nothing -/
theorem fn_no {k : Nat} {f : Addr} {fd : FuncData} {ps : List Str} : FnOk P w Z.K mg base (L2.CX P w) k f fd ps (spD Z fun _ _ => .no) :=
  ⟨fun vs H Q E ⟨_, _, _, _, _, q⟩ => q.elim, fun A outer s H args us vs Q E _ _ _ _ ⟨_, _, _, _, _, q⟩ => q.elim⟩
end
section
variable {X : Cx} {Z : SC} {xc : Option Xc} {W : WX} {k : Nat} {f : Addr} {fd : FuncData} {ps : List Str} {F : List D → Sto → R D} {x : Str} {p pos : Pos} {e : Expr} {es : List Expr} {fs : AF}
theorem sp_of {σ : L2.St} {H : Hp} {ads : List Addr} {s : Sto} {vs : List V} {ds : List D} {Q : VK} (g : Gd Z H ads s) (r : Rps Z.K H ads vs ds) (q : PoE Z W σ H ads Q (F ds s)) : spD Z F vs H Q (WE W σ) := by
  refine ⟨ads, s, ds, g, r, ?_⟩
  generalize F ds s = z at q
  cases z <;> exact q
/-- a call; dfs: what the further parameters hold by default -/
theorem d_call {dvs : List V} {dds : List D} {dus : List Value} (Fn : FnOk X.prog X.w X.K X.mg X.base (L2.CX X.prog X.w) k f fd ps (spD Z F)) (hr : Room k X.A) (hm : X.mg x = some (.ref f)) (hk : PySem.W.keepIn X.K (.ref f) = true) (hb : Binds X.K fd ps dus) (hd : Vals dvs dus) (hrd : ∀ H ads, Rps Z.K H ads dvs dds)
    (tk : Takes X W) (ha : PA X (e :: es) (dA Z xc W fs)) (hg : Gl X x := by rfl) (hdb : (x == ("__debug__" : Str)) = false := by decide) (he : starEach (e :: es) X.env = (false, eval e X.env) :: starEach es X.env := by rfl) (hpl : (backTo pos (starEach es X.env)).any (·.1) = false := by rfl) :
    PE X (.Call (.Name x p) (e :: es) [] pos) (dE Z xc W (eApp (fun ds s => F (ds ++ dds) s) fs)) :=
  PE_imp (pe_callSD Fn hr hg hm hk hb hd (fun σ => passAt tk σ) ha hdb he hpl) fun σ H Q ⟨ads, ρ, s, t, q⟩ => ⟨ads, ρ, s, t, bAE q fun ds s1 vs H1 ads1 x1 g1 r1 q1 => sp_of g1 (r1.append (hrd _ _)) q1⟩
theorem d_call1 (Fn : FnOk X.prog X.w X.K X.mg X.base (L2.CX X.prog X.w) k f fd ps (spD Z F)) (hr : Room k X.A) (hm : X.mg x = some (.ref f)) (hk : PySem.W.keepIn X.K (.ref f) = true) (hb : Binds X.K fd ps [])
    (tk : Takes X W) (ha : PA X (e :: es) (dA Z xc W fs)) (hg : Gl X x := by rfl) (hdb : (x == ("__debug__" : Str)) = false := by decide) (he : starEach (e :: es) X.env = (false, eval e X.env) :: starEach es X.env := by rfl) (hpl : (backTo pos (starEach es X.env)).any (·.1) = false := by rfl) :
    PE X (.Call (.Name x p) (e :: es) [] pos) (dE Z xc W (eApp F fs)) :=
  PE_imp (pe_callSD Fn hr hg hm hk hb (dvs := []) .nil (fun σ => passAt tk σ) ha hdb he hpl) fun σ H Q ⟨ads, ρ, s, t, q⟩ => ⟨ads, ρ, s, t, bAE q fun ds s1 vs H1 ads1 x1 g1 r1 q1 => by
    show spD Z F (vs ++ []) H1 Q (WE W σ)
    rw [List.append_nil]
    exact sp_of g1 r1 q1⟩
end
end DL

/-! DL6: operators and built-ins by values. -/
namespace DL
open PySem PySem.Spec PyProof.Rows L2

/-! ### numbers -/
def intD2 (f : Int → Int → D) : D → D → Sto → R D
  | .int i, .int j, s => .ok (f i j) s
  | _, _, _ => .no
def intDC (C : Int → Int → Bool) (f : Int → Int → D) : D → D → Sto → R D
  | .int i, .int j, s => if C i j then .ok (f i j) s else .no
  | _, _, _ => .no
/-- a number that no evaluation opens -/
noncomputable def bigN : Nat := Classical.choose (⟨_, rfl⟩ : ∃ n : Nat, n = 2 ^ 40000000)
theorem bigN_eq : bigN = 2 ^ 40000000 := Classical.choose_spec (⟨_, rfl⟩ : ∃ n : Nat, n = 2 ^ 40000000)
noncomputable def mulOk (i j : Int) : Bool := decide (i.natAbs < bigN) && decide (j.natAbs < bigN)
def subD := intD2 fun i j => .int (i - j)
noncomputable def mulD := intDC mulOk fun i j => .int (i * j)
def fdivD := intDC (fun _ j => decide (0 < j) && decide (j.natAbs < 2 ^ 9000)) fun i j => .int (i / j)
def modD := intDC (fun _ j => decide (0 < j)) fun i j => .int (i % j)
def powD := intDC (fun i j => decide (0 ≤ j) && decide (j ≤ 1000000) && decide (i.natAbs < 2 ^ 64)) fun i j => .int (i ^ j.toNat)
def ltI := intD2 fun i j => .bl (decide (i < j))
def leI := intD2 fun i j => .bl (decide (i ≤ j))
def gtI := intD2 fun i j => .bl (decide (j < i))
def geI := intD2 fun i j => .bl (decide (j ≤ i))
def negD : D → Sto → R D
  | .int i, s => .ok (.int (-i)) s
  | _, _ => .no
section
variable {Z : SC} {X : Cx}
theorem opd_I0 {g : Int → Int → V} {f : Int → Int → D} (h : ∀ i j H ads, Rp Z.K H ads (g i j) (f i j)) : OpD Z (rI0 g) (intD2 f) := fun {W σ H ads s x y d e Q} gd rx ry q => by
  cases rx with
  | int i => cases ry with
    | int j => exact ⟨i, j, rfl, rfl, q.ok gd (h i j _ _)⟩
    | _ => exact q.elim
  | _ => cases ry <;> exact q.elim
theorem opd_IC {C : Int → Int → Prop} {B : Int → Int → Bool} {g : Int → Int → V} {f : Int → Int → D} (hc : ∀ i j, B i j = true → C i j) (h : ∀ i j H ads, Rp Z.K H ads (g i j) (f i j)) : OpD Z (rI C g) (intDC B f) := fun {W σ H ads s x y d e Q} gd rx ry q => by
  cases rx with
  | int i => cases ry with
    | int j =>
      simp only [intDC] at q
      cases hb : B i j with
      | false => simp only [hb, if_false] at q; exact q.elim
      | true =>
        simp only [hb, if_true] at q
        exact ⟨i, j, rfl, rfl, hc i j hb, q.ok gd (h i j _ _)⟩
    | _ => exact q.elim
  | _ => cases ry <;> exact q.elim
theorem op_subD : OpD Z (rI0 fun i j => .int (i - j)) subD := opd_I0 fun _ _ _ _ => .int _
theorem log2_small {n k : Nat} (h : n < 2 ^ k) (hk : 0 < k) : n.log2 < k := PySem.Flt.log2_lt_of hk h
/-- a product within the line -/
def CMulB (i j : Int) : Prop := i.natAbs < 2 ^ 40000000 ∧ j.natAbs < 2 ^ 40000000
theorem CMulB.ok {i j : Int} (h : CMulB i j) : IntMulOk i j := by
  have b : ∀ z : Int, Builtin.Int.intBits z ≤ z.natAbs.log2 + 1 := fun z => by
    unfold Builtin.Int.intBits; split <;> omega
  have h1 := b i
  have h2 := b j
  have l1 := log2_small h.1 (by decide)
  have l2 := log2_small h.2 (by decide)
  (have e : bitsLine = 134217728 := by decide); intro z
  rw [Bool.and_eq_true] at z
  have z3 := z.2
  unfold Builtin.Int.intTooBig at z3
  have z4 := of_decide_eq_true z3
  rw [e] at z4
  omega
theorem op_mulB : OpR X (binaryOp .Mult) (rI CMulB fun i j => .int (i * j)) := opI fun i j _ _ _ _ _ hc q => mul_int q hc.ok
theorem op_mulD : OpD Z (rI CMulB fun i j => .int (i * j)) mulD := opd_IC (fun i j h => by
  simp only [mulOk, bigN_eq, Bool.and_eq_true, decide_eq_true_eq] at h
  exact h) fun _ _ _ _ => .int _
theorem op_fdivD : OpD Z (rI CDivW fun i j => .int (i / j)) fdivD := opd_IC (fun i j h => by
  simp only [Bool.and_eq_true, decide_eq_true_eq] at h; exact ⟨h.1, log2_small h.2 (by decide)⟩) fun _ _ _ _ => .int _
theorem op_modD : OpD Z (rI (fun _ j => 0 < j) fun i j => .int (i % j)) modD := opd_IC (fun i j h => by simpa using h) fun _ _ _ _ => .int _
theorem op_powD : OpD Z (rI CPow fun i j => .int (i ^ j.toNat)) powD := opd_IC (fun i j h => by
  simp only [Bool.and_eq_true, decide_eq_true_eq] at h; exact ⟨h.1.1, h.1.2, h.2⟩) fun _ _ _ _ => .int _
theorem op_ltD : OpD Z (rI0 fun i j => .bl (decide (i < j))) ltI := opd_I0 fun _ _ _ _ => .bl _
theorem op_leD : OpD Z (rI0 fun i j => .bl (decide (i ≤ j))) leI := opd_I0 fun _ _ _ _ => .bl _
theorem op_gtD : OpD Z (rI0 fun i j => .bl (decide (j < i))) gtI := opd_I0 fun _ _ _ _ => .bl _
theorem op_geD : OpD Z (rI0 fun i j => .bl (decide (j ≤ i))) geI := opd_I0 fun _ _ _ _ => .bl _
theorem un_negD : UnD Z (rU fun i => .int (-i)) negD := fun {W σ H ads s x d Q} g r q => by
  cases r with
  | int i => exact ⟨i, rfl, q.ok g (.int _)⟩
  | _ => exact q.elim
end
/-! ### + of numbers, texts, tuples, lists -/
def addD : D → D → Sto → R D
  | .int i, .int j, s => .ok (.int (i + j)) s
  | .str x, .str y, s => if x.length + y.length ≤ sizeLine then .ok (.str (x ++ y)) s else .no
  | .tup xs, .tup ys, s => if xs.length + ys.length ≤ 100000 then .ok (.tup (xs ++ ys)) s else .no
  | .loc m, .loc n, s => match s[m]?, s[n]? with
    | some (.lst xs), some (.lst ys) => if xs.length + ys.length ≤ 100000 then .ok (.loc s.length) (s ++ [.lst (xs ++ ys)]) else .no
    | _, _ => .no
  | _, _, _ => .no
def rAddS : R2 := fun x y H Q => ∃ i j, x = .str i ∧ y = .str j ∧ i.length + j.length ≤ sizeLine ∧ Q (.str (i ++ j)) H
def rAddA (K : PySem.W.Frag) : R2 := fun x y H Q => (rI0 (fun i j => .int (i + j)) x y H Q ∨ rAddS x y H Q) ∨ (rCatA K x y H Q ∨ rCat x y H Q)
theorem op_addA {X : Cx} : OpR X (binaryOp .Add) (rAddA X.K) := OpR.or (OpR.or op_add op_add_str) (OpR.or op_catA op_cat)
theorem len_app (x y : Str) : (x ++ y).length = x.length + y.length := by
  show (x.cps ++ y.cps).size = _
  simp
  rfl
theorem op_addD {Z : SC} : OpD Z (rAddA Z.K) addD := fun {W σ H ads s x y d e Q} g rx ry q => by
  cases rx with
  | int i => cases ry with
    | int j => exact .inl (.inl ⟨i, j, rfl, rfl, q.ok g (.int _)⟩)
    | _ => exact q.elim
  | @str z h => cases ry with
    | @str u h2 =>
      simp only [addD] at q
      split at q
      · rename_i hl
        exact .inl (.inr ⟨z, u, rfl, rfl, hl, q.ok g (.str (by rw [len_app]; exact hl))⟩)
      · exact q.elim
    | _ => exact q.elim
  | @tup a xs ds h r z => cases ry with
    | @tup b ys es h2 r2 z2 =>
      simp only [addD] at q
      split at q
      · rename_i hl
        have hl2 := le_size hl
        have r3 := r.append r2
        refine .inr (.inl ⟨a, b, xs, ys, rfl, rfl, h, h2, by rw [r.length, r2.length]; exact hl2, fun e1 => ?_, fun _ e2 => ?_, fun _ _ => new_tup g r3 (by simpa using hl2) q⟩)
        · subst e1
          cases r
          exact q.ok g (.tup h2 r2 z2)
        · subst e2
          cases r2
          rw [List.append_nil] at q
          exact q.ok g (.tup h r z)
      · exact q.elim
    | _ => exact q.elim
  | @loc a m h => cases ry with
    | @loc b n h2 =>
      obtain ⟨c, hc, k⟩ := g.cellA h
      obtain ⟨c2, hc2, k2⟩ := g.cellA h2
      simp only [addD, hc, hc2] at q
      cases c with
      | lst ds => cases c2 with
        | lst es =>
          simp only at q
          obtain ⟨xs, hx, r, z⟩ := k
          obtain ⟨ys, hy, r2, z2⟩ := k2
          split at q
          · rename_i hl
            have hl2 := le_size hl
            exact .inr (.inr ⟨a, b, xs, ys, rfl, rfl, hx, hy, by rw [r.length, r2.length]; exact hl2, new_lst g (r.append r2) (by simpa using hl2) q⟩)
          · exact q.elim
        | _ => exact q.elim
      | _ => exact q.elim
    | _ => exact q.elim
  | _ => cases ry <;> exact q.elim
/-! ### ==, != -/
mutual
def D.pyF : D → PyData
  | .non => .none
  | .bl b => .bool b
  | .int i => .int i
  | .str x => .str x
  | .tup xs => .tuple (pysF xs)
  | .fls xs => .list (pysF xs)
  | .loc _ => .none
def pysF : List D → List PyData
  | [] => []
  | d :: ds => d.pyF :: pysF ds
end
def D.py (s : Sto) : D → Option PyData
  | .loc n => match s[n]? with
    | some (.lst xs) => if flats xs then some (.list (pysF xs)) else none
    | _ => none
  | d => if d.flat then some d.pyF else none
def eqD (d e : D) (s : Sto) : R D := match d.py s, e.py s with
  | some a, some b => if SeqAt.shaped a && SeqAt.shaped b then .ok (.bl (PyData.eqv a b)) s else .no
  | _, _ => .no
def neD (d e : D) (s : Sto) : R D := match d.py s, e.py s with
  | some a, some b => if SeqAt.shaped a && SeqAt.shaped b then .ok (.bl (!PyData.eqv a b)) s else .no
  | _, _ => .no
section
variable {Z : SC} {K : PySem.W.Frag} {H : Hp} {ads : List Addr} {s : Sto}
mutual
theorem Rp.dp : ∀ {v : V} {d : D}, d.flat = true → Rp K H ads v d → Dp K H v d.pyF
  | _, _, _, .non => .non
  | _, _, _, .bl b => .bl b
  | _, _, _, .int i => .int i
  | _, _, _, .str (x := x) h => .str x
  | _, _, h, .tup a r z => .tup a (Rps.dp (by simpa [D.flat] using h) r)
  | _, _, h, .fls a r z => .lst a.sq (Rps.dp (by simpa [D.flat] using h) r)
  | _, _, h, .loc a => by simp [D.flat] at h
theorem Rps.dp : ∀ {vs : List V} {ds : List D}, flats ds = true → Rps K H ads vs ds → DpAll K H vs (pysF ds)
  | _, _, _, .nil => .nil
  | _, _, h, .cons r t => by
    simp [flats] at h
    exact .cons (Rp.dp h.1 r) (Rps.dp h.2 t)
end
theorem py_dp (g : Gd Z H ads s) {v : V} {d : D} (r : Rp Z.K H ads v d) {a : PyData} (h : d.py s = some a) : Dp Z.K H v a := by
  cases r with
  | @loc b n q =>
    obtain ⟨c, hc, k⟩ := g.cellA q
    simp only [D.py, hc] at h
    cases c with
    | lst ds =>
      obtain ⟨xs, hx, r, z⟩ := k
      simp only at h
      split at h
      · cases h; exact .lst (SqL.of hx) (r.dp (by assumption))
      · cases h
    | _ => cases h
  | non => cases h; exact .non
  | bl b => cases h; exact .bl b
  | int i => cases h; exact .int i
  | str z => cases h; exact .str _
  | tup q r z =>
    simp only [D.py] at h
    split at h
    · cases h
      exact Rp.dp (by assumption) (.tup q r z)
    · cases h
  | fls q r z =>
    simp only [D.py] at h
    split at h
    · cases h
      exact Rp.dp (by assumption) (.fls q r z)
    · cases h
theorem op_eqDD : OpD Z (rEqD Z.K) eqD := fun {W σ H ads s x y d e Q} g rx ry q => by
  unfold eqD at q
  cases h1 : d.py s with
  | none => rw [h1] at q; exact q.elim
  | some a => cases h2 : e.py s with
    | none => rw [h1, h2] at q; exact q.elim
    | some b =>
      simp only [h1, h2] at q
      split at q
      · rename_i hs
        rw [Bool.and_eq_true] at hs
        exact ⟨a, b, py_dp g rx h1, py_dp g ry h2, hs.1, hs.2, q.ok g (.bl _)⟩
      · exact q.elim
theorem op_neDD : OpD Z (rNeD Z.K) neD := fun {W σ H ads s x y d e Q} g rx ry q => by
  unfold neD at q
  cases h1 : d.py s with
  | none => rw [h1] at q; exact q.elim
  | some a => cases h2 : e.py s with
    | none => rw [h1, h2] at q; exact q.elim
    | some b =>
      simp only [h1, h2] at q
      split at q
      · rename_i hs
        rw [Bool.and_eq_true] at hs
        exact ⟨a, b, py_dp g rx h1, py_dp g ry h2, hs.1, hs.2, q.ok g (.bl _)⟩
      · exact q.elim
end
/-! ### is None, is True -/
def isD : D → D → Sto → R D
  | d, .non, s => .ok (.bl (match d with | .non => true | _ => false)) s
  | d, .bl b, s => .ok (.bl (match d with | .bl c => decide (c = b) | _ => false)) s
  | _, _, _ => .no
def isnD : D → D → Sto → R D
  | d, .non, s => .ok (.bl (!(match d with | .non => true | _ => false))) s
  | d, .bl b, s => .ok (.bl (!(match d with | .bl c => decide (c = b) | _ => false))) s
  | _, _, _ => .no
def noFn : V → Prop
  | .ty _ => False
  | _ => True
def rIsC : R2 := fun x y H Q => noFn x ∧ ((y = .non ∧ Q (.bl (decide (x = .non))) H) ∨ ∃ b, y = .bl b ∧ Q (.bl (decide (x = .bl b))) H)
def rIsnC : R2 := fun x y H Q => noFn x ∧ ((y = .non ∧ Q (.bl (!decide (x = .non))) H) ∨ ∃ b, y = .bl b ∧ Q (.bl (!decide (x = .bl b))) H)
section
variable {X : Cx} {Z : SC}
theorem is_plain_bl {x : V} {v : Value} (r : RelV x v) (h : noFn x) (b : Bool) : plainIs v (.bool b) = true ∧ (v == Value.bool b) = decide (x = .bl b) := by
  cases x with
  | non => cases r; exact ⟨rfl, by cases b <;> rfl⟩
  | bl c =>
    cases r
    refine ⟨rfl, ?_⟩
    by_cases e : c = b
    · subst e; simp
    · have : (Value.bool c == Value.bool b) = false := beq_eq_false_iff_ne.mpr fun z => e (Value.bool.inj z)
      rw [this]; simp [e]
  | int i => obtain ⟨t, rfl⟩ := r; exact ⟨rfl, by rw [beq_eq_false_iff_ne.mpr (by simp)]; simp⟩
  | str i => obtain ⟨t, rfl⟩ := r; exact ⟨rfl, by rw [beq_eq_false_iff_ne.mpr (by simp)]; simp⟩
  | byt i => obtain ⟨t, rfl⟩ := r; exact ⟨rfl, by rw [beq_eq_false_iff_ne.mpr (by simp)]; simp⟩
  | flt i => obtain ⟨t, rfl⟩ := r; exact ⟨rfl, by rw [beq_eq_false_iff_ne.mpr (by simp)]; simp⟩
  | ref a => cases r; exact ⟨rfl, by rw [beq_eq_false_iff_ne.mpr (by simp)]; simp⟩
  | ty n => exact h.elim
theorem op_isC : OpR X (compareOp .Is) rIsC := by
  intro pins s σ H x y v u Q I rx ry h; obtain ⟨nf, ⟨rfl, q⟩ | ⟨b, rfl, q⟩⟩ := h
  · exact op_isN pins s σ H x .non v u Q I rx ry ⟨rfl, q⟩
  · cases (show u = Value.bool b from ry)
    obtain ⟨h1, h2⟩ := is_plain_bl rx nf b
    exact wpAny_is_plain h1 ⟨.bl _, H, I, by rw [h2]; rfl, q⟩
theorem op_isnC : OpR X (compareOp .IsNot) rIsnC := by
  intro pins s σ H x y v u Q I rx ry h; obtain ⟨nf, ⟨rfl, q⟩ | ⟨b, rfl, q⟩⟩ := h
  · exact op_notN pins s σ H x .non v u Q I rx ry ⟨rfl, q⟩
  · cases (show u = Value.bool b from ry)
    obtain ⟨h1, h2⟩ := is_plain_bl rx nf b
    exact wpAny_isNot_plain h1 ⟨.bl _, H, I, by rw [h2]; rfl, q⟩
theorem op_isD : OpD Z rIsC isD := fun {W σ H ads s x y d e Q} g rx ry q => by
  cases ry with
  | non => cases rx <;> exact ⟨trivial, .inl ⟨rfl, q.ok g (.bl _)⟩⟩
  | bl b => cases rx <;> refine ⟨trivial, .inr ⟨b, rfl, ?_⟩⟩ <;> simp only [V.bl.injEq, reduceCtorEq, decide_false] <;> exact q.ok g (.bl _)
  | _ => cases rx <;> exact q.elim
theorem op_isnD : OpD Z rIsnC isnD := fun {W σ H ads s x y d e Q} g rx ry q => by
  cases ry with
  | non => cases rx <;> exact ⟨trivial, .inl ⟨rfl, q.ok g (.bl _)⟩⟩
  | bl b => cases rx <;> refine ⟨trivial, .inr ⟨b, rfl, ?_⟩⟩ <;> simp only [V.bl.injEq, reduceCtorEq, decide_false] <;> exact q.ok g (.bl _)
  | _ => cases rx <;> exact q.elim
end
/-! ### isinstance -/
inductive Ty where
  | none | bool | int | str | tuple | list | dict
  deriving DecidableEq
def Ty.name : Ty → String
  | .none => "NoneType" | .bool => "bool" | .int => "int" | .str => "str" | .tuple => "tuple" | .list => "list" | .dict => "dict"
def isTy : Ty → Ty → Bool
  | .bool, .int => true
  | a, b => decide (a = b)
def D.ty (s : Sto) : D → Option Ty
  | .non => some .none
  | .bl _ => some .bool
  | .int _ => some .int
  | .str _ => some .str
  | .tup _ => some .tuple
  | .fls _ => some .list
  | .loc n => match s[n]? with
    | some (.lst _) => some .list
    | some (.dK _) => some .dict
    | _ => none
theorem kit_isTy (a b : Ty) (h : b ≠ .none) : kitB a.name b.name = some (isTy a b) := by
  cases b <;> first | exact absurd rfl h | (cases a <;> decide +kernel)
def isiD (T : List Ty) : D → Sto → R D := fun d s => match d.ty s with
  | some t => .ok (.bl (T.any (isTy t))) s
  | none => .no
def eIsi (T : List Ty) (a : EF) : EF := fun ρ s => (a ρ s).bind (isiD T)
section
variable {X : Cx} {Z : SC} {xc : Option Xc} {W : WX} {e : Expr} {fe : EF} {pos : Pos}
theorem ty_ok {H : Hp} {ads : List Addr} {s : Sto} {v : V} {d : D} {t : Ty} (g : Gd Z H ads s) (r : Rp Z.K H ads v d) (h : d.ty s = some t) : TyX Z.K H v (.type t.name) := by
  cases r with
  | non => cases h; exact .base .non
  | bl b => cases h; exact .base (.bl b)
  | int i => cases h; exact .base (.int i)
  | str => cases h; exact .base (.str _)
  | tup q r z =>
    cases h
    rcases q with (q | ⟨o, q⟩) | ⟨o, its, n, q, c, _⟩
    · exact .base (.tup q)
    · exact .fTuple q
    · exact .kTuple q c
  | fls q r z =>
    cases h
    rcases q with ⟨o, q⟩ | ⟨o, its, n, q, c, _⟩
    · exact .base (.frz q)
    · exact .kList q c
  | @loc a n q =>
    obtain ⟨c, hc, k⟩ := g.cellA q
    simp only [D.ty, hc] at h
    cases c with
    | lst ds => obtain ⟨xs, hx, _⟩ := k; cases h; exact .base (.lst hx)
    | dK ds => obtain ⟨xs, hx, _⟩ := k; cases h; exact .base (.dK hx)
    | ins => cases h
/-- isinstance(e, T), T a built-in class -/
theorem d_isi (T : Ty) {p p2 : Pos} {x : Str} (hx : x = Str.ofString T.name := by rfl) (hT : T ≠ .none := by decide) (he : PE X e (dE Z xc W fe)) (hm : X.mg "isinstance" = none) (hmT : X.mg x = none) (hK : X.K = Z.K := by rfl) (hg : Gl X "isinstance" := by rfl) (hgT : Gl X x := by rfl)
    (hvT : bootBuiltins x = some (.type T.name) := by decide +kernel) (hnT : x ≠ "__name__" := by decide) (hdT : (x == ("__debug__" : Str)) = false := by decide) (hst : starEach (e :: [.Name x p2]) X.env = (false, eval e X.env) :: starEach [.Name x p2] X.env := by rfl) (hst2 : starEach [.Name x p2] X.env = (false, eval (.Name x p2) X.env) :: starEach [] X.env := by rfl)
    (hpl : (backTo pos (starEach [.Name x p2] X.env)).any (·.1) = false := by rfl) : PE X (.Call (.Name "isinstance" p) (e :: [.Name x p2]) [] pos) (dE Z xc W (eIsi [T] fe)) :=
  PE_imp (pe_callB call_isi hg hm (by decide +kernel) (pa_cons he (pa_cons (pe_bltn hgT hmT hvT (v := .ty T.name) rfl hnT hdT) pa_nil hst2) hst) (by decide) (by decide) hst hpl) fun σ H Q ⟨ads, ρ, s, t, q⟩ => ⟨ads, ρ, s, t, bEE q fun d s1 v H1 ads1 x1 g1 r1 q1 => by
    rw [hK]
    unfold isiD at q1
    cases ht : d.ty s1 with
    | none => rw [ht] at q1; exact q1.elim
    | some ty =>
      rw [ht] at q1
      refine ⟨v, .ty T.name, .type ty.name, .type T.name, isTy ty T, rfl, .ty _, ty_ok g1 r1 ht, kit_ty (kit_isTy _ _ hT), ?_⟩
      have q2 : PoE Z W σ H1 ads1 Q (.ok (.bl (isTy ty T)) s1) := by simpa using q1
      exact q2.ok g1 (.bl _)⟩
end
/-! ### built-in functions -/
def lenD : List D → Sto → R D
  | [.tup xs], s => .ok (.int xs.length) s
  | [.fls xs], s => .ok (.int xs.length) s
  | [.str x], s => .ok (.int x.length) s
  | [.loc n], s => match s[n]? with
    | some (.lst xs) => .ok (.int xs.length) s
    | _ => .no
  | _, _ => .no
def intD : List D → Sto → R D
  | [.int i], s => .ok (.int i) s
  | [.bl b], s => .ok (.int (if b then 1 else 0)) s
  | _, _ => .no
def max2D : List D → Sto → R D
  | [.int i, .int j], s => .ok (.int (if j > i then j else i)) s
  | _, _ => .no
def min2D : List D → Sto → R D
  | [.int i, .int j], s => .ok (.int (if j < i then j else i)) s
  | _, _ => .no
def gcdD : List D → Sto → R D
  | [.int a, .int b], s => .ok (.int ((Nat.gcd a.natAbs b.natAbs : Nat) : Int)) s
  | _, _ => .no
def listD : List D → Sto → R D
  | [.tup xs], s => .ok (.loc s.length) (s ++ [.lst xs])
  | [.fls xs], s => .ok (.loc s.length) (s ++ [.lst xs])
  | [.loc n], s => match s[n]? with
    | some (.lst xs) => .ok (.loc s.length) (s ++ [.lst xs])
    | _ => .no
  | _, _ => .no
def tupleD : List D → Sto → R D
  | [.tup xs], s => .ok (.tup xs) s
  | [.loc n], s => match s[n]? with
    | some (.lst xs) => .ok (.tup xs) s
    | _ => .no
  | _, _ => .no
def bools : List D → Option (List Bool)
  | [] => some []
  | .bl b :: ds => (bools ds).map (b :: ·)
  | _ :: _ => none
def intsD : List D → Option (List Int)
  | [] => some []
  | .int b :: ds => (intsD ds).map (b :: ·)
  | _ :: _ => none
def allD : List D → Sto → R D
  | [.loc n], s => match s[n]? with
    | some (.lst xs) => match bools xs with
      | some bs => .ok (.bl (bs.all id)) s
      | none => .no
    | _ => .no
  | _, _ => .no
def anyD : List D → Sto → R D
  | [.loc n], s => match s[n]? with
    | some (.lst xs) => match bools xs with
      | some bs => .ok (.bl (bs.any id)) s
      | none => .no
    | _ => .no
  | _, _ => .no
def sumD : List D → Sto → R D
  | [.loc n], s => match s[n]? with
    | some (.lst xs) => match intsD xs with
      | some bs => .ok (.int bs.sum) s
      | none => .no
    | _ => .no
  | _, _ => .no
section
variable {Z : SC}
theorem bools_ok {K : PySem.W.Frag} {H : Hp} {ads : List Addr} : ∀ {vs : List V} {ds : List D} {bs : List Bool}, Rps K H ads vs ds → bools ds = some bs → vs = bs.map V.bl
  | _, _, bs, .nil, h => by cases h; rfl
  | _, _, bs, .cons r t, h => by
    cases r with
    | bl b =>
      simp only [bools, Option.map_eq_some_iff] at h
      obtain ⟨cs, h1, rfl⟩ := h
      rw [bools_ok t h1]; rfl
    | _ => cases h
theorem intsD_ok {K : PySem.W.Frag} {H : Hp} {ads : List Addr} : ∀ {vs : List V} {ds : List D} {bs : List Int}, Rps K H ads vs ds → intsD ds = some bs → vs = bs.map V.int
  | _, _, bs, .nil, h => by cases h; rfl
  | _, _, bs, .cons r t, h => by
    cases r with
    | int b =>
      simp only [intsD, Option.map_eq_some_iff] at h
      obtain ⟨cs, h1, rfl⟩ := h
      rw [intsD_ok t h1]; rfl
    | _ => cases h
def rLenK (K : PySem.W.Frag) : List V → Hp → VK → Prop := fun xs H Q => ∃ x n, xs = [x] ∧ LenV K x H n ∧ Q (.int n) H
theorem c_len : CallD Z (rLenK Z.K) lenD := fun {W σ H ads s xs ds Q} g rs q => by
  cases rs with
  | nil => exact q.elim
  | cons r rs => cases rs with
    | cons _ _ => cases r <;> exact q.elim
    | nil => cases r with
      | @tup a ys ds h t z => exact ⟨_, ys.length, rfl, .inr ⟨ys, h, rfl⟩, by rw [t.length]; exact q.ok g (.int _)⟩
      | @fls a ys ds h t z => exact ⟨_, ys.length, rfl, .inl ⟨ys, h.sq, rfl⟩, by rw [t.length]; exact q.ok g (.int _)⟩
      | @str z h => exact ⟨_, z.length, rfl, ⟨h, rfl⟩, q.ok g (.int _)⟩
      | @loc a n h =>
        obtain ⟨c, hc, k⟩ := g.cellA h
        simp only [lenD, hc] at q
        cases c with
        | lst ds => obtain ⟨ys, hy, t, z⟩ := k; exact ⟨_, ys.length, rfl, .inl ⟨ys, SqL.of hy, rfl⟩, by rw [t.length]; exact q.ok g (.int _)⟩
        | _ => exact q.elim
      | _ => exact q.elim
theorem c_int : CallD Z (fun xs H Q => (∃ i, xs = [.int i] ∧ Q (.int i) H) ∨ ∃ k, xs = [.bl k] ∧ Q (.int (if k then 1 else 0)) H) intD := fun {W σ H ads s xs ds Q} g rs q => by
  cases rs with
  | nil => exact q.elim
  | cons r rs => cases rs with
    | cons _ _ => cases r <;> exact q.elim
    | nil => cases r with
      | int i => exact .inl ⟨i, rfl, q.ok g (.int _)⟩
      | bl i => exact .inr ⟨i, rfl, q.ok g (.int _)⟩
      | _ => exact q.elim
theorem two_ints {σ : L2.St} {W : WX} {H : Hp} {ads : List Addr} {s : Sto} {xs : List V} {ds : List D} {Q : VK} {op : List D → Sto → R D} (hop : ∀ ds s, (∀ i j : Int, ds ≠ [.int i, .int j]) → op ds s = .no) (rs : Rps Z.K H ads xs ds) (q : PoE Z W σ H ads Q (op ds s)) : ∃ i j : Int, xs = [.int i, .int j] ∧ ds = [.int i, .int j] := by
  by_cases h : ∃ i j : Int, ds = [.int i, .int j]
  · obtain ⟨i, j, rfl⟩ := h
    obtain ⟨v, w, rfl, r1, r2⟩ := rps2 rs
    cases rp_int r1
    cases rp_int r2
    exact ⟨i, j, rfl, rfl⟩
  · rw [hop ds s fun i j e => h ⟨i, j, e⟩] at q
    exact q.elim
theorem c_max2 : CallD Z (fun xs H Q => ∃ i j, xs = [.int i, .int j] ∧ Q (.int (if j > i then j else i)) H) max2D := fun {W σ H ads s xs ds Q} g rs q => by
  obtain ⟨i, j, rfl, rfl⟩ := two_ints (fun ds s h => by unfold max2D; split <;> first | rfl | exact absurd rfl (h _ _)) rs q
  exact ⟨i, j, rfl, q.ok g (.int _)⟩
theorem c_min2 : CallD Z (fun xs H Q => ∃ i j, xs = [.int i, .int j] ∧ Q (.int (if j < i then j else i)) H) min2D := fun {W σ H ads s xs ds Q} g rs q => by
  obtain ⟨i, j, rfl, rfl⟩ := two_ints (fun ds s h => by unfold min2D; split <;> first | rfl | exact absurd rfl (h _ _)) rs q
  exact ⟨i, j, rfl, q.ok g (.int _)⟩
theorem c_gcd : CallD Z rGcd gcdD := fun {W σ H ads s xs ds Q} g rs q => by
  obtain ⟨i, j, rfl, rfl⟩ := two_ints (fun ds s h => by unfold gcdD; split <;> first | rfl | exact absurd rfl (h _ _)) rs q
  exact ⟨i, j, rfl, q.ok g (.int _)⟩
def rListOf (K : PySem.W.Frag) : List V → Hp → VK → Prop := fun xs H Q => ∃ p ys, xs = [.ref p] ∧ (SqL K H p ys ∨ SqT K H p ys) ∧ ∀ l, H l = none → Q (.ref l) (upd H l (.lst ys))
theorem c_list : CallD Z (rListOf Z.K) listD := fun {W σ H ads s xs ds Q} g rs q => by
  cases rs with
  | nil => exact q.elim
  | cons r rs => cases rs with
    | cons _ _ => cases r <;> exact q.elim
    | nil => cases r with
      | @tup a ys ds h t z => exact ⟨a, ys, rfl, .inr h, new_lst g t z q⟩
      | @fls a ys ds h t z => exact ⟨a, ys, rfl, .inl h.sq, new_lst g t z q⟩
      | @loc a n h =>
        obtain ⟨c, hc, k⟩ := g.cellA h
        simp only [listD, hc] at q
        cases c with
        | lst ds => obtain ⟨ys, hy, t, z⟩ := k; exact ⟨a, ys, rfl, .inl (SqL.of hy), new_lst g t z q⟩
        | _ => exact q.elim
      | _ => exact q.elim
def rTupleOf (K : PySem.W.Frag) : List V → Hp → VK → Prop := fun xs H Q => ∃ p ys, xs = [.ref p] ∧ ((SqL K H p ys ∧ ∀ l, H l = none → Q (.ref l) (upd H l (.tup ys))) ∨ (SqT K H p ys ∧ Q (.ref p) H))
theorem c_tuple : CallD Z (rTupleOf Z.K) tupleD := fun {W σ H ads s xs ds Q} g rs q => by
  cases rs with
  | nil => exact q.elim
  | cons r rs => cases rs with
    | cons _ _ => cases r <;> exact q.elim
    | nil => cases r with
      | @tup a ys ds h t z => exact ⟨a, ys, rfl, .inr ⟨h, q.ok g (.tup h t z)⟩⟩
      | @loc a n h =>
        obtain ⟨c, hc, k⟩ := g.cellA h
        simp only [tupleD, hc] at q
        cases c with
        | lst ds => obtain ⟨ys, hy, t, z⟩ := k; exact ⟨a, ys, rfl, .inl ⟨SqL.of hy, new_tup g t z q⟩⟩
        | _ => exact q.elim
      | _ => exact q.elim
theorem c_all : CallD Z (rAll Z.K) allD := fun {W σ H ads s xs ds Q} g rs q => by
  cases rs with
  | nil => exact q.elim
  | cons r rs => cases rs with
    | cons _ _ => cases r <;> exact q.elim
    | nil => cases r with
      | @loc a n h =>
        obtain ⟨c, hc, k⟩ := g.cellA h
        simp only [allD, hc] at q
        cases c with
        | lst ds =>
          obtain ⟨ys, hy, t, z⟩ := k
          simp only at q
          cases hb : bools ds with
          | none => rw [hb] at q; exact q.elim
          | some bs => rw [hb] at q; exact ⟨a, bs, rfl, by rw [← bools_ok t hb]; exact SqL.of hy, q.ok g (.bl _)⟩
        | _ => exact q.elim
      | _ => exact q.elim
theorem c_any : CallD Z (rAny Z.K) anyD := fun {W σ H ads s xs ds Q} g rs q => by
  cases rs with
  | nil => exact q.elim
  | cons r rs => cases rs with
    | cons _ _ => cases r <;> exact q.elim
    | nil => cases r with
      | @loc a n h =>
        obtain ⟨c, hc, k⟩ := g.cellA h
        simp only [anyD, hc] at q
        cases c with
        | lst ds =>
          obtain ⟨ys, hy, t, z⟩ := k
          simp only at q
          cases hb : bools ds with
          | none => rw [hb] at q; exact q.elim
          | some bs => rw [hb] at q; exact ⟨a, bs, rfl, by rw [← bools_ok t hb]; exact SqL.of hy, q.ok g (.bl _)⟩
        | _ => exact q.elim
      | _ => exact q.elim
theorem c_sum : CallD Z (rSum Z.K) sumD := fun {W σ H ads s xs ds Q} g rs q => by
  cases rs with
  | nil => exact q.elim
  | cons r rs => cases rs with
    | cons _ _ => cases r <;> exact q.elim
    | nil => cases r with
      | @loc a n h =>
        obtain ⟨c, hc, k⟩ := g.cellA h
        simp only [sumD, hc] at q
        cases c with
        | lst ds =>
          obtain ⟨ys, hy, t, z⟩ := k
          simp only at q
          cases hb : intsD ds with
          | none => rw [hb] at q; exact q.elim
          | some bs => rw [hb] at q; exact ⟨a, bs, rfl, by rw [← intsD_ok t hb]; exact SqL.of hy, q.ok g (.int _)⟩
        | _ => exact q.elim
      | _ => exact q.elim
end
end DL

/-! DL7: defs by name, short rules, the end. -/
namespace DL
open PySem PySem.Spec PyProof.Rows L2

/-! ### a def of the module by its name -/
structure Own (P : Program) (w : World) (Z : SC) (mg : Str → Option Value) (base : Heap) (k : Nat) (x : Str) (F : List D → Sto → R D) : Prop where
  ex : ∃ f, FnR P w Z.K mg base (L2.CX P w) k f (spD Z F) ∧ mg x = some (.ref f) ∧ PySem.W.keepIn Z.K (.ref f) = true
/-- by n values and keywords ks -/
def FnKw (P : Program) (w : World) (K : PySem.W.Frag) (mg : Str → Option Value) (base : Heap) (CX : CXT) (k : Nat) (f : Addr) (n : Nat) (ks : List Str) (sp : Sp) : Prop :=
  ∀ (A : Around) (outer : List Env) (s : Shared) (H : Hp) (us ws : List Value) (vs zs : List V) (Q : VK) (E : XK), Room k A → Env0 P w K mg base A outer s H → Vals vs us → Vals zs ws → vs.length = n → zs.length = ks.length → sp (vs ++ zs) H Q E →
    codeAny (model P w) A (.call (.ref f) ⟨us, ks.zip ws⟩) (CR CX outer P w H s Q E) s
structure OwnK (P : Program) (w : World) (Z : SC) (mg : Str → Option Value) (base : Heap) (k : Nat) (x : Str) (n : Nat) (ks : List Str) (F : List D → Sto → R D) : Prop where
  ex : ∃ f, FnKw P w Z.K mg base (L2.CX P w) k f n ks (spD Z F) ∧ mg x = some (.ref f) ∧ PySem.W.keepIn Z.K (.ref f) = true
/-- n values given: the rest is dds -/
def dflF (n : Nat) (dds : List D) (F G : List D → Sto → R D) : List D → Sto → R D := fun ds s => if ds.length = n then F (ds ++ dds) s else G ds s
/-- a star behind n parameters -/
def starF (n : Nat) (F : List D → Sto → R D) : List D → Sto → R D := fun ds s => if n ≤ ds.length ∧ ds.length ≤ 100000 then F (ds.take n ++ [.tup (ds.drop n)]) s else .no
def noF : List D → Sto → R D := fun _ _ => .no
def kwF (n m : Nat) (g : List D → List D → List D) (F : List D → Sto → R D) : List D → Sto → R D := fun ds s => if ds.length = n + m then F (g (ds.take n) (ds.drop n)) s else .no
section
variable {P : Program} {w : World} {Z : SC} {mg : Str → Option Value} {base : Heap}
theorem Own.mono {j k : Nat} {x : Str} {F : List D → Sto → R D} (O : Own P w Z mg base j x F) (h : j ≤ k) : Own P w Z mg base k x F := by
  obtain ⟨f, h1, h2, h3⟩ := O.ex
  exact ⟨f, h1.mono h, h2, h3⟩
theorem fnR_no {k : Nat} {f : Addr} : FnR P w Z.K mg base (L2.CX P w) k f (spD Z noF) := fun A outer s H us vs Q E _ _ _ ⟨_, _, _, _, _, q⟩ => q.elim
theorem spD_eq {F G : List D → Sto → R D} {vs : List V} {H : Hp} {Q : VK} {E : XK} (h : spD Z F vs H Q E) : ∃ ads s ds, Gd Z H ads s ∧ Rps Z.K H ads vs ds ∧ PoE Z (fun c x _ H' => E c x H') [] H ads Q (F ds s) := h
/-- a def of the text does what its body's function says -/
theorem fnok_of {x : Str} {st : Stmt} {dvs : List V} {f : Addr} {fd : FuncData} {N ps : List Str} {k : Nat} {F : SF} (Fn : FunD Z.K x x (defArgs st) (defBody st) (defScope st) dvs [] f fd) (S : FnScope N ps (defScope st))
    (hb : ∀ (cdv : Value) (A : Around) (outer : List Env) (s : Shared) (H : Hp) (E : XK), Room k (A.deeper (envOfC x (defScope st) s.heap.objs.size f cdv)) →
      Takes (cxOf (L2.CX P w) P w Z.K mg base N x (defScope st) f cdv A outer s H E) (fun c y _ H' => E c y H') →
      PSs (cxOf (L2.CX P w) P w Z.K mg base N x (defScope st) f cdv A outer s H E) (defBody st) (dS Z none (fun c y _ H' => E c y H') F)) : FnOk P w Z.K mg base (L2.CX P w) (k + 1) f fd ps (spD Z (fnD ps.length N.length F)) :=
  Fn.ok S (sp_len rfl) fun cdv A outer s H vs Q E hr h => ⟨_, hb cdv A outer s H E hr (takes_of rfl rfl rfl rfl), body_ok h⟩
/-- without defaults -/
theorem own_ok {x : Str} {st : Stmt} {f : Addr} {fd : FuncData} {N ps : List Str} {k : Nat} {F : SF} (Fn : FunD Z.K x x (defArgs st) (defBody st) (defScope st) [] [] f fd) (hm : mg x = some (.ref f)) (S : FnScope N ps (defScope st))
    (hbi : ∀ (kV doc pm : Value) (an : Option Addr) (cdv ct : Value) (us : List Value), us.length = ps.length → bindArgs (PySem.W.fnOf x x (defArgs st) (defBody st) (defScope st) .none kV doc pm an cdv ct) ⟨us, []⟩ = pure (ps.zip us))
    (hb : ∀ (cdv : Value) (A : Around) (outer : List Env) (s : Shared) (H : Hp) (E : XK), Room k (A.deeper (envOfC x (defScope st) s.heap.objs.size f cdv)) →
      Takes (cxOf (L2.CX P w) P w Z.K mg base N x (defScope st) f cdv A outer s H E) (fun c y _ H' => E c y H') →
      PSs (cxOf (L2.CX P w) P w Z.K mg base N x (defScope st) f cdv A outer s H E) (defBody st) (dS Z none (fun c y _ H' => E c y H') F)) : Own P w Z mg base (k + 1) x (fnD ps.length N.length F) :=
  ⟨f, ((fnok_of Fn S hb).raw (Fn.bindsN hbi) .nil).imp fun vs H Q E h => by rw [List.append_nil]; exact h, hm, Fn.kp⟩
/-- the same of the law's def -/
theorem fnok_ok {x : Str} {st : Stmt} {f : Addr} {fd : FuncData} {N ps : List Str} {k : Nat} {F : SF} (Fn : FunD Z.K x x (defArgs st) (defBody st) (defScope st) [] [] f fd) (S : FnScope N ps (defScope st))
    (hb : ∀ (cdv : Value) (A : Around) (outer : List Env) (s : Shared) (H : Hp) (E : XK), Room k (A.deeper (envOfC x (defScope st) s.heap.objs.size f cdv)) →
      Takes (cxOf (L2.CX P w) P w Z.K mg base N x (defScope st) f cdv A outer s H E) (fun c y _ H' => E c y H') →
      PSs (cxOf (L2.CX P w) P w Z.K mg base N x (defScope st) f cdv A outer s H E) (defBody st) (dS Z none (fun c y _ H' => E c y H') F)) : FnOk P w Z.K mg base (L2.CX P w) (k + 1) f fd ps (spD Z (fnD ps.length N.length F)) :=
  fnok_of Fn S hb
/-- no depth, nothing said -/
theorem own_no {x : Str} {st : Stmt} {dvs : List V} {f : Addr} {fd : FuncData} {k : Nat} (Fn : FunD Z.K x x (defArgs st) (defBody st) (defScope st) dvs [] f fd) (hm : mg x = some (.ref f)) : Own P w Z mg base k x noF :=
  ⟨f, fnR_no, hm, Fn.kp⟩
/-- with defaults: n values are given, j defaults are not asked -/
theorem fnR_dfl {x : Str} {st : Stmt} {dvs : List V} {dds : List D} {f : Addr} {fd : FuncData} {ps : List Str} {k : Nat} {F G : List D → Sto → R D} (Fn : FunD Z.K x x (defArgs st) (defBody st) (defScope st) dvs [] f fd) (Fo : FnOk P w Z.K mg base (L2.CX P w) k f fd ps (spD Z F)) (n j : Nat) (hd : dvs ≠ []) (hn : n + (dvs.length - j) = ps.length)
    (h : ∀ (T : Addr) (kV doc pm : Value) (an : Option Addr) (cdv ct : Value) (us its : List Value), us.length = n → its.length = dvs.length → ∃ k, bindArgs (PySem.W.fnOf x x (defArgs st) (defBody st) (defScope st) (.ref T) kV doc pm an cdv ct) ⟨us, []⟩ = seqItems? (.ref T) >>= k ∧ k (some its.toArray) = pure (ps.zip (us ++ its.drop j)))
    (hr : ∀ H ads, Rps Z.K H ads (dvs.drop j) dds) (O : FnR P w Z.K mg base (L2.CX P w) k f (spD Z G)) : FnR P w Z.K mg base (L2.CX P w) k f (spD Z (dflF n dds F G)) := by
  obtain ⟨us0, r0, b0⟩ := Fn.binds1 n j hd hn h
  intro A outer s H us vs Q E hR e0 r ⟨ads, st', ds, g, rr, q⟩
  unfold dflF at q
  by_cases hl : ds.length = n
  · rw [if_pos hl] at q
    exact (Fo.raw b0 r0) A outer s H us vs Q E hR e0 r ⟨ads, st', ds ++ dds, g, rr.append (hr H ads), q⟩
  · rw [if_neg hl] at q
    exact O A outer s H us vs Q E hR e0 r ⟨ads, st', ds, g, rr, q⟩
/-- a star -/
theorem own_star {x pv : Str} {st : Stmt} {f : Addr} {fd : FuncData} {N ps : List Str} {k : Nat} {F : SF} (Fn : FunD Z.K x x (defArgs st) (defBody st) (defScope st) [] [] f fd) (hm : mg x = some (.ref f)) (S : FnScope N (ps ++ [pv]) (defScope st))
    (hbi : ∀ (kV doc pm : Value) (an : Option Addr) (cdv ct : Value) (us rest : List Value), us.length = ps.length → bindArgs (PySem.W.fnOf x x (defArgs st) (defBody st) (defScope st) .none kV doc pm an cdv ct) ⟨us ++ rest, []⟩ = (newTuple rest >>= fun t => pure (ps.zip us ++ [(pv, t)])))
    (hb : ∀ (cdv : Value) (A : Around) (outer : List Env) (s : Shared) (H : Hp) (E : XK), Room k (A.deeper (envOfC x (defScope st) s.heap.objs.size f cdv)) →
      Takes (cxOf (L2.CX P w) P w Z.K mg base N x (defScope st) f cdv A outer s H E) (fun c y _ H' => E c y H') →
      PSs (cxOf (L2.CX P w) P w Z.K mg base N x (defScope st) f cdv A outer s H E) (defBody st) (dS Z none (fun c y _ H' => E c y H') F)) : Own P w Z mg base (k + 1) x (starF ps.length (fnD (ps.length + 1) N.length F)) := by
  obtain ⟨oc, od, dV, kV, doc, pm, an, cdv, ct, osl, rfl, lk, hcd, hD, _⟩ := Fn.ex; rcases hD with ⟨_, rfl⟩ | ⟨e, _⟩
  · refine ⟨f, (StX.fn_star (CX := L2.CX P w) (sp := spD Z (fnD (ps.length + 1) N.length F)) (ps := ps) (pv := pv) (k := k) lk hcd S StX.cxUp (hbi kV doc pm an cdv ct) fun A outer s H vs Q E hr h => ⟨_, hb cdv A outer s H E hr (takes_of rfl rfl rfl rfl), body_ok h⟩).imp fun vs H Q E ⟨ads, s, ds, g, rr, q⟩ => ?_, hm, Fn.kp⟩
    unfold starF at q
    by_cases hl : ps.length ≤ ds.length ∧ ds.length ≤ 100000
    · rw [if_pos hl] at q
      refine ⟨vs.take ps.length, vs.drop ps.length, (List.take_append_drop _ _).symm, by rw [List.length_take, rr.length]; omega, ?_, fun p hp => ?_⟩
      · rw [List.length_drop, rr.length]
        exact Nat.le_trans (Nat.le_trans (Nat.sub_le _ _) hl.2) (by decide)
      · have xn : Xt Z.K H ads (upd H p (.tup (vs.drop ps.length))) ads := Xt.upd (soft_none hp)
        have rd := (rr.drop ps.length).mono xn
        refine ⟨ads, s, ds.take ps.length ++ [.tup (ds.drop ps.length)], g.new hp, ((rr.take ps.length).mono xn).append (.cons (.tup (.inl (.inl upd_same)) rd ?_) .nil), q.mono xn⟩
        rw [List.length_drop]
        exact Nat.le_trans (Nat.le_trans (Nat.sub_le _ _) hl.2) (by decide)
    · rw [if_neg hl] at q
      exact q.elim
  · exact absurd rfl e
/-- with keywords; all defaults: dvs -/
theorem ownk_ok {x : Str} {st : Stmt} {dvs : List V} {dds : List D} {f : Addr} {fd : FuncData} {ps : List Str} {k : Nat} {F : List D → Sto → R D} (Fn : FunD Z.K x x (defArgs st) (defBody st) (defScope st) dvs [] f fd) (hm : mg x = some (.ref f)) (Fo : FnOk P w Z.K mg base (L2.CX P w) k f fd ps (spD Z F)) (n : Nat) (ks : List Str) (g : {α : Type} → List α → List α → List α → List α)
    (hrel : ∀ {vs ds zs : List V} {us its ws : List Value}, Vals vs us → Vals ds its → Vals zs ws → Vals (g vs ds zs) (g us its ws)) (hrp : ∀ {H : Hp} {ads : List Addr} {vs ds zs : List V} {us its ws : List D}, Rps Z.K H ads vs us → Rps Z.K H ads ds its → Rps Z.K H ads zs ws → Rps Z.K H ads (g vs ds zs) (g us its ws)) (hd : dvs ≠ [])
    (h : ∀ (T : Addr) (kV doc pm : Value) (an : Option Addr) (cdv ct : Value) (us its ws : List Value), us.length = n → its.length = dvs.length → ws.length = ks.length → ∃ k, bindArgs (PySem.W.fnOf x x (defArgs st) (defBody st) (defScope st) (.ref T) kV doc pm an cdv ct) ⟨us, ks.zip ws⟩ = seqItems? (.ref T) >>= k ∧ k (some its.toArray) = pure (ps.zip (g us its ws)))
    (hr : ∀ H ads, Rps Z.K H ads dvs dds) : OwnK P w Z mg base k x n ks (kwF n ks.length (fun us ws => g us dds ws) F) := by
  refine ⟨f, ?_, hm, Fn.kp⟩
  obtain ⟨oc, od, dV, kV, doc, pm, an, cdv, ct, osl, rfl, lk, hcd, hD, hK⟩ := Fn.ex; rcases hD with ⟨e, _⟩ | ⟨_, T, o, its, m, rfl, lT, oT, rT⟩
  · exact absurd e hd
  · intro A outer s H us ws vs zs Q E hR e0 r rz l1 l2 ⟨ads, st', ds, gd, rr, q⟩
    unfold kwF at q
    by_cases hl : ds.length = n + ks.length
    · rw [if_pos hl] at q
      have r1 : Rps Z.K H ads vs (ds.take n) := by
        have := rr.take n
        rwa [List.take_left' l1] at this
      have r2 : Rps Z.K H ads zs (ds.drop n) := by
        have := rr.drop n
        rwa [List.drop_left' l1] at this
      have X : Z.K.In s.heap := e0.mod.kin.keeps fun b o e => (e0.bs b o e).1
      obtain ⟨kk, e1, e2⟩ := h T kV doc pm an cdv ct us its ws (r.length.symm.trans l1) rT.length.symm (rz.length.symm.trans l2)
      refine Fo.run A outer s H ⟨us, ks.zip ws⟩ (g us its ws) (g vs dvs zs) Q E hR e0 (BindsTo.of_looks fun M => ?_) (hrel r rT rz) ⟨ads, st', _, gd, hrp r1 (hr H ads) r2, q⟩
      rw [e1]; exact looks_items X lT oT (.of_pure e2)
    · rw [if_neg hl] at q
      exact q.elim
end
section
variable {X : Cx} {Z : SC} {xc : Option Xc} {W : WX} {k j : Nat} {F : List D → Sto → R D} {x : Str} {p pos : Pos} {e : Expr} {es : List Expr} {fs fk : AF}
theorem after_call {CX : CXT} {pins : List (Addr × Obj)} {σ : L2.St} {H : Hp} {s : Shared} {Q : VK} {E : XK} {c : Code} (I : L2.Inv X pins σ H s) (hx : PassesAt CX X σ E) (h : codeAny (model X.prog X.w) X.A c (CR CX X.stack X.prog X.w H s Q E) s) :
    codeAny (model X.prog X.w) X.A c (fun r s' => match r with | .ok (.ret v) => EP X pins σ Q v s' | .ok _ => False | .error e => X.xe e s') s := by
  refine codeAny_mono h fun r s' hq => ?_
  cases r with
  | error e => (exact hx pins H s e s' I hq)
  | ok fl =>
    cases fl with
    | ret u => exact I.after hq
    | next => exact False.elim hq
    | brk => exact False.elim hq
    | cont => exact False.elim hq
theorem d_own (O : Own X.prog X.w Z X.mg X.base j x F) (hr : Room k X.A) (tk : Takes X W) (ha : PA X (e :: es) (dA Z xc W fs)) (hj : j ≤ k := by first | decide | (simp only [Nat.add_eq]; omega)) (hK : X.K = Z.K := by rfl) (hg : Gl X x := by rfl) (hdb : (x == ("__debug__" : Str)) = false := by decide)
    (he : starEach (e :: es) X.env = (false, eval e X.env) :: starEach es X.env := by rfl) (hpl : (backTo pos (starEach es X.env)).any (·.1) = false := by rfl) : PE X (.Call (.Name x p) (e :: es) [] pos) (dE Z xc W (eApp F fs)) := by
  obtain ⟨f, h1, h2, h3⟩ := O.ex
  rw [← hK] at h1 h3
  refine ⟨fun pins s σ H Q I ⟨ads, ρ, s0, t, q⟩ => ?_⟩
  refine wpAny_Call_Name_kw (ld_glob I hg h2 ?_ hdb)
  refine PySem.W.callWith_K (h₀ := X.base) I.ok.mod.kin h3 (thn (ha.run pos pins s σ H (fun vs H1 => spD Z F vs H1 Q (WE W σ)) I ⟨ads, ρ, s0, t, bAE q fun ds s1 vs H1 ads1 x1 g1 r1 q1 => sp_of g1 r1 q1⟩) fun us s1 ⟨vs, H1, I1, r, q1⟩ => ⟨I1.kIn, ?_⟩) he hpl
  exact wpAny_call (after_call I1 (passAt tk σ) (h1 X.A X.stack s1 H1 us vs Q (WE W σ) (hr.mono hj) I1.env0 r q1))
/-- f() -/
theorem d_own0 (O : Own X.prog X.w Z X.mg X.base j x F) (hr : Room k X.A) (tk : Takes X W) (hj : j ≤ k := by first | decide | (simp only [Nat.add_eq]; omega)) (hK : X.K = Z.K := by rfl) (hg : Gl X x := by rfl) (hdb : (x == ("__debug__" : Str)) = false := by decide)
    : PE X (.Call (.Name x p) [] [] pos) (dE Z xc W (eApp F aNil)) := by
  obtain ⟨f, h1, h2, h3⟩ := O.ex
  rw [← hK] at h1 h3
  refine ⟨fun pins s σ H Q I ⟨ads, ρ, s0, t, q⟩ => ?_⟩
  refine wpAny_Call_Name_kw (ld_glob I hg h2 ?_ hdb)
  refine PySem.W.callWith_K0 I.kIn h3 ?_
  exact wpAny_call (after_call I (passAt tk σ) (h1 X.A X.stack s H [] [] Q (WE W σ) (hr.mono hj) I.env0 .nil (sp_of t.g .nil q)))
def ALen (fs : AF) (n : Nat) : Prop := ∀ ρ s ds s1, fs ρ s = .ok ds s1 → ds.length = n
theorem aNil_len : ALen aNil 0 := fun ρ s ds s1 h => by cases h; rfl
theorem aCons_len {fe : EF} {n : Nat} (h : ALen fs n) : ALen (aCons fe fs) (n + 1) := fun ρ s ds s1 e => by
  unfold aCons at e
  cases e1 : fe ρ s with
  | no => rw [e1] at e; cases e
  | ex _ _ => rw [e1] at e; cases e
  | ok d s2 =>
    simp only [e1, R.bind] at e
    cases e2 : fs ρ s2 with
    | no => rw [e2] at e; cases e
    | ex _ _ => rw [e2] at e; cases e
    | ok es s3 =>
      rw [e2] at e
      cases e
      simp [h _ _ _ _ e2]
def eKw (F : List D → Sto → R D) (as ks : AF) : EF := fun ρ s => (as ρ s).bind fun ds s1 => (ks ρ s1).bind fun es s2 => F (ds ++ es) s2
theorem dk_nil : PK X [] (dA Z xc W aNil) := ⟨fun pos pins s σ H Q I ⟨ads, ρ, s0, t, q⟩ => pk_nil.run pos pins s σ H Q I (q [] H ads Xt.refl t.g .nil)⟩
theorem dk_cons {kws : List Keyword} {nm : Option Str} {fe : EF} {kpos : Pos} (ha : PE X e (dE Z xc W fe)) (hr : PK X kws (dA Z xc W fk)) : PK X (⟨nm, e, kpos⟩ :: kws) (dA Z xc W (aCons fe fk)) :=
  ⟨fun pos pins s σ H Q I ⟨ads, ρ, s0, t, q⟩ => (pk_cons ha hr).run pos pins s σ H Q I ⟨ads, ρ, s0, t, bEA q fun d s1 v H1 ads1 x1 g1 r1 q1 => ⟨ads1, ρ, s1, t.mono x1 g1, bAA q1 fun ds s2 vs H2 ads2 x2 g2 r2 q2 => q2 (v :: vs) H2 ads2 Xt.refl g2 (.cons (r1.mono x2) r2)⟩⟩⟩
theorem d_ownK {n : Nat} {ks : List Str} {kws : List Keyword} (O : OwnK X.prog X.w Z X.mg X.base j x n ks F) (hr : Room k X.A) (tk : Takes X W) (ha : PA X (e :: es) (dA Z xc W fs)) (hkw : PK X kws (dA Z xc W fk)) (hlen : ALen fs n) (hlen2 : ALen fk ks.length) (hj : j ≤ k := by first | decide | (simp only [Nat.add_eq]; omega)) (hK : X.K = Z.K := by rfl) (hg : Gl X x := by rfl) (hdb : (x == ("__debug__" : Str)) = false := by decide)
    (hall : (backToKw pos (keywordEach kws X.env)).all (·.1.isSome) = true := by rfl) (hks : (backToKw pos (keywordEach kws X.env)).filterMap (·.1) = ks := by rfl) (he : starEach (e :: es) X.env = (false, eval e X.env) :: starEach es X.env := by rfl)
    (hpl : ((backTo pos (starEach (e :: es) X.env)).any (·.1) || (backToKw pos (keywordEach kws X.env)).any (·.1.isNone)) = false := by rfl)  : PE X (.Call (.Name x p) (e :: es) kws pos) (dE Z xc W (eKw F fs fk)) := by
  obtain ⟨f, h1, h2, h3⟩ := O.ex
  rw [← hK] at h1 h3
  refine ⟨fun pins s σ H Q I ⟨ads, ρ, s0, t, q⟩ => ?_⟩
  refine wpAny_Call_Name_kw (ld_glob I hg h2 ?_ hdb)
  have q0 : PoE Z W σ H ads Q ((fs ρ s0).bind fun ds s1 => (fk ρ s1).bind fun es s2 => F (ds ++ es) s2) := q
  cases e1 : fs ρ s0 with
  | no => rw [e1] at q0; exact q0.elim
  | ex ee s1 =>
    rw [e1] at q0
    refine PySem.W.callWith_KW (h₀ := X.base) I.ok.mod.kin h3 hall (thn (ha.run pos pins s σ H (fun _ _ => False) I ⟨ads, ρ, s0, t, by rw [e1]; exact q0⟩) fun us s2 ⟨_, _, _, _, z⟩ => z.elim) hpl he
  | ok ds s1 =>
    rw [e1] at q0
    have l1 : ds.length = n := hlen _ _ _ _ e1
    refine PySem.W.callWith_KW (h₀ := X.base) I.ok.mod.kin h3 hall (thn (ha.run pos pins s σ H (fun vs H1 => vs.length = n ∧ dA Z xc W fk σ H1 fun zs H2 => zs.length = ks.length ∧ spD Z F (vs ++ zs) H2 Q (WE W σ)) I ⟨ads, ρ, s0, t, by
      rw [e1]
      intro vs H1 ads1 x1 g1 r1
      refine ⟨r1.length.trans l1, ads1, ρ, s1, t.mono x1 g1, ?_⟩
      have q1 := PoE.mono x1 q0
      cases e2 : fk ρ s1 with
      | no => simp only [R.bind, e2] at q1; exact q1.elim
      | ex ee s2 => simp only [R.bind, e2] at q1; exact q1
      | ok es s2 =>
        have l2 := hlen2 _ _ _ _ e2
        simp only [R.bind, e2] at q1
        exact fun zs H2 ads2 x2 g2 r2 => ⟨r2.length.trans l2, sp_of g2 ((r1.mono x2).append r2) (q1.mono x2)⟩⟩) fun us s1 ⟨vs, H1, I1, r, lv, q1⟩ => ?_) hpl he
    refine thn (hkw.run pos pins s1 σ H1 _ I1 q1) fun ws s2 ⟨zs, H2, I2, rz, lz, q2⟩ => ⟨I2.kIn, ?_⟩
    rw [hks]
    exact wpAny_call (after_call I2 (passAt tk σ) (h1 X.A X.stack s2 H2 us ws vs zs Q (WE W σ) (hr.mono hj) I2.env0 r rz lv lz q2))
end
/-! ### constants of the module -/
mutual
/-- what a value of the written part stands for -/
def datB (K : PySem.W.Frag) : D → Value → Bool
  | .non, u => He.relB .non u
  | .bl b, u => He.relB (.bl b) u
  | .int i, u => He.relB (.int i) u
  | .str x, u => He.relB (.str x) u && decide (x.length ≤ sizeLine)
  | .tup ds, .ref a => (match K.lookup a with
    | some ⟨.type c, _, .seq its _, _⟩ => decide (c = "tuple") && (decide (its.size ≤ sizeLine) && datsB K ds its.toList)
    | _ => false)
  | _, _ => false
def datsB (K : PySem.W.Frag) : List D → List Value → Bool
  | [], [] => true
  | d :: ds, u :: us => datB K d u && datsB K ds us
  | _, _ => false
end
mutual
theorem datB_ok {K : PySem.W.Frag} : ∀ {d : D} {u : Value}, datB K d u = true → ∃ v, RelV v u ∧ ∀ H ads, Rp K H ads v d
  | .non, u, h => ⟨.non, He.relB_ok (by unfold datB at h; exact h), fun _ _ => .non⟩
  | .bl b, u, h => ⟨.bl b, He.relB_ok (by unfold datB at h; exact h), fun _ _ => .bl b⟩
  | .int i, u, h => ⟨.int i, He.relB_ok (by unfold datB at h; exact h), fun _ _ => .int i⟩
  | .str x, u, h => by
    unfold datB at h
    obtain ⟨h1, h2⟩ := Bool.and_eq_true_iff.mp h
    exact ⟨.str x, He.relB_ok h1, fun _ _ => .str (of_decide_eq_true h2)⟩
  | .tup ds, .ref a, h => by
    unfold datB at h
    cases q : K.lookup a with
    | none => rw [q] at h; cases h
    | some o =>
      obtain ⟨oc, od, dt, sl⟩ := o
      rw [q] at h
      cases oc with
      | type c =>
        cases dt with
        | seq its n =>
          obtain ⟨h1, h2⟩ := Bool.and_eq_true_iff.mp h
          obtain ⟨h3, h4⟩ := Bool.and_eq_true_iff.mp h2
          obtain ⟨vs, r, k⟩ := datsB_ok h4
          have hz := of_decide_eq_true h3
          refine ⟨.ref a, rfl, fun H ads => .tup (.inr ⟨_, its, n, q, by rw [of_decide_eq_true h1], rfl, hz, r⟩) (k H ads) ?_⟩
          rw [← (k H ads).length, r.length]
          simpa using hz
        | _ => cases h
      | _ => cases h
  | .tup _, .none, h => by unfold datB at h; cases h
  | .tup _, .ellipsis, h => by unfold datB at h; cases h
  | .tup _, .notImplemented, h => by unfold datB at h; cases h
  | .tup _, .bool _, h => by unfold datB at h; cases h
  | .tup _, .int _ _, h => by unfold datB at h; cases h
  | .tup _, .str _ _, h => by unfold datB at h; cases h
  | .tup _, .bytes _ _, h => by unfold datB at h; cases h
  | .tup _, .float _ _, h => by unfold datB at h; cases h
  | .tup _, .type _, h => by unfold datB at h; cases h
  | .tup _, .builtin _, h => by unfold datB at h; cases h
  | .fls _, u, h => by unfold datB at h; cases h
  | .loc _, u, h => by unfold datB at h; cases h
theorem datsB_ok {K : PySem.W.Frag} : ∀ {ds : List D} {us : List Value}, datsB K ds us = true → ∃ vs, Vals vs us ∧ ∀ H ads, Rps K H ads vs ds
  | [], [], _ => ⟨[], .nil, fun _ _ => .nil⟩
  | [], _ :: _, h => by unfold datsB at h; cases h
  | _ :: _, [], h => by unfold datsB at h; cases h
  | d :: ds, u :: us, h => by
    unfold datsB at h
    obtain ⟨h1, h2⟩ := Bool.and_eq_true_iff.mp h
    obtain ⟨v, r, k⟩ := datB_ok h1
    obtain ⟨vs, rs, ks⟩ := datsB_ok h2
    exact ⟨v :: vs, .cons r rs, fun H ads => .cons (k H ads) (ks H ads)⟩
end
def gloB (K : PySem.W.Frag) (x : Str) (d : D) : Bool := match PySem.W.nsIn K mainGlobals x with
  | some (some u) => datB K d u
  | _ => false
/-- a module's name holds a datum -/
structure GlD (K : PySem.W.Frag) (mg : Str → Option Value) (x : Str) (d : D) : Prop where
  ex : ∃ u v, mg x = some u ∧ RelV v u ∧ ∀ H ads, Rp K H ads v d
theorem gloB_ok {K : PySem.W.Frag} {mg : Str → Option Value} {h : Heap} (X : K.In h) (G : h.Ns mainGlobals mg) {x : Str} {d : D} (c : gloB K x d = true) : GlD K mg x d := by
  unfold gloB at c
  cases q : PySem.W.nsIn K mainGlobals x with
  | none => rw [q] at c; cases c
  | some o =>
    rw [q] at c
    cases o with
    | none => cases c
    | some u =>
      obtain ⟨v, r, k⟩ := datB_ok c
      exact ⟨u, v, PySem.W.mg_of X G q, r, k⟩
theorem d_glD {X : Cx} {Z : SC} {xc : Option Xc} {W : WX} {x : Str} {d : D} {pos : Pos} (G : GlD Z.K X.mg x d) (hg : Gl X x := by rfl) (hd : (x == ("__debug__" : Str)) = false := by decide) : PE X (.Name x pos) (dE Z xc W (eC d)) := by
  obtain ⟨u, v, h1, h2, h3⟩ := G.ex
  exact d_glob h1 h2 h3 hg hd
/-! ### short rules -/
section
variable {X : Cx} {Z : SC} {xc : Option Xc} {W : WX} {a b c e : Expr} {fa fb fc fe : EF} {fs : AF} {p pos cpos apos : Pos} {es : List Expr}
theorem d_add (ha : PE X a (dE Z xc W fa)) (hb : PE X b (dE Z xc W fb)) (hK : X.K = Z.K := by rfl) : PE X (.BinOp a .Add b pos) (dE Z xc W (eBin addD fa fb)) := d_op op_addA (by rw [hK]; exact op_addD) ha hb
theorem d_sub (ha : PE X a (dE Z xc W fa)) (hb : PE X b (dE Z xc W fb)) : PE X (.BinOp a .Sub b pos) (dE Z xc W (eBin subD fa fb)) := d_op op_sub op_subD ha hb
theorem d_mul (ha : PE X a (dE Z xc W fa)) (hb : PE X b (dE Z xc W fb)) : PE X (.BinOp a .Mult b pos) (dE Z xc W (eBin mulD fa fb)) := d_op op_mulB op_mulD ha hb
theorem d_fdiv (ha : PE X a (dE Z xc W fa)) (hb : PE X b (dE Z xc W fb)) : PE X (.BinOp a .FloorDiv b pos) (dE Z xc W (eBin fdivD fa fb)) := d_op op_fdivW op_fdivD ha hb
theorem d_mod (ha : PE X a (dE Z xc W fa)) (hb : PE X b (dE Z xc W fb)) : PE X (.BinOp a .Mod b pos) (dE Z xc W (eBin modD fa fb)) := d_op op_mod op_modD ha hb
theorem d_pow (ha : PE X a (dE Z xc W fa)) (hb : PE X b (dE Z xc W fb)) : PE X (.BinOp a .Pow b pos) (dE Z xc W (eBin powD fa fb)) := d_op op_pow op_powD ha hb
theorem d_neg (ha : PE X a (dE Z xc W fa)) : PE X (.UnaryOp .USub a pos) (dE Z xc W (eUn negD fa)) := d_un un_neg un_negD ha
theorem nm_lt {b : Expr} : behindInMarks .Lt b = false := nobehind b (by decide) (by decide)
/-! comparisons: c for the rule, t for the test -/
theorem d_lt (ha : PE X a (dE Z xc W fa)) (hb : PE X b (dE Z xc W fb)) : PE X (.Compare a [.Lt] [b] pos) (dE Z xc W (eBin ltI fa fb)) := d_cmp op_lt op_ltD ha hb (nobehind b (by decide) (by decide))
theorem d_le (ha : PE X a (dE Z xc W fa)) (hb : PE X b (dE Z xc W fb)) : PE X (.Compare a [.LtE] [b] pos) (dE Z xc W (eBin leI fa fb)) := d_cmp op_le op_leD ha hb (nobehind b (by decide) (by decide))
theorem d_gt (ha : PE X a (dE Z xc W fa)) (hb : PE X b (dE Z xc W fb)) : PE X (.Compare a [.Gt] [b] pos) (dE Z xc W (eBin gtI fa fb)) := d_cmp op_gt op_gtD ha hb (nobehind b (by decide) (by decide))
theorem d_ge (ha : PE X a (dE Z xc W fa)) (hb : PE X b (dE Z xc W fb)) : PE X (.Compare a [.GtE] [b] pos) (dE Z xc W (eBin geI fa fb)) := d_cmp op_ge op_geD ha hb (nobehind b (by decide) (by decide))
theorem d_eq {k : Nat} (hr : Room k X.A) (ha : PE X a (dE Z xc W fa)) (hb : PE X b (dE Z xc W fb)) (hK : X.K = Z.K := by rfl) : PE X (.Compare a [.Eq] [b] pos) (dE Z xc W (eBin eqD fa fb)) := d_cmp (op_eqD hr.units) (by rw [hK]; exact op_eqDD) ha hb (nobehind b (by decide) (by decide))
theorem d_ne {k : Nat} (hr : Room k X.A) (ha : PE X a (dE Z xc W fa)) (hb : PE X b (dE Z xc W fb)) (hK : X.K = Z.K := by rfl) : PE X (.Compare a [.NotEq] [b] pos) (dE Z xc W (eBin neD fa fb)) := d_cmp (op_neD hr.units) (by rw [hK]; exact op_neDD) ha hb (nobehind b (by decide) (by decide))
theorem d_is (ha : PE X a (dE Z xc W fa)) (hb : PE X b (dE Z xc W fb)) : PE X (.Compare a [.Is] [b] pos) (dE Z xc W (eBin isD fa fb)) := d_cmp op_isC op_isD ha hb (nobehind b (by decide) (by decide))
theorem d_isn (ha : PE X a (dE Z xc W fa)) (hb : PE X b (dE Z xc W fb)) : PE X (.Compare a [.IsNot] [b] pos) (dE Z xc W (eBin isnD fa fb)) := d_cmp op_isnC op_isnD ha hb (nobehind b (by decide) (by decide))
theorem t_lt (ha : PE X a (dE Z xc W fa)) (hb : PE X b (dE Z xc W fb)) : PT X (.Compare a [.Lt] [b] pos) (dT Z xc W (tTru blD (eBin ltI fa fb))) := d_tcmp op_lt op_ltD ha hb (nobehind b (by decide) (by decide))
theorem t_le (ha : PE X a (dE Z xc W fa)) (hb : PE X b (dE Z xc W fb)) : PT X (.Compare a [.LtE] [b] pos) (dT Z xc W (tTru blD (eBin leI fa fb))) := d_tcmp op_le op_leD ha hb (nobehind b (by decide) (by decide))
theorem t_gt (ha : PE X a (dE Z xc W fa)) (hb : PE X b (dE Z xc W fb)) : PT X (.Compare a [.Gt] [b] pos) (dT Z xc W (tTru blD (eBin gtI fa fb))) := d_tcmp op_gt op_gtD ha hb (nobehind b (by decide) (by decide))
theorem t_ge (ha : PE X a (dE Z xc W fa)) (hb : PE X b (dE Z xc W fb)) : PT X (.Compare a [.GtE] [b] pos) (dT Z xc W (tTru blD (eBin geI fa fb))) := d_tcmp op_ge op_geD ha hb (nobehind b (by decide) (by decide))
theorem t_eq {k : Nat} (hr : Room k X.A) (ha : PE X a (dE Z xc W fa)) (hb : PE X b (dE Z xc W fb)) (hK : X.K = Z.K := by rfl) : PT X (.Compare a [.Eq] [b] pos) (dT Z xc W (tTru blD (eBin eqD fa fb))) := d_tcmp (op_eqD hr.units) (by rw [hK]; exact op_eqDD) ha hb (nobehind b (by decide) (by decide))
theorem t_ne {k : Nat} (hr : Room k X.A) (ha : PE X a (dE Z xc W fa)) (hb : PE X b (dE Z xc W fb)) (hK : X.K = Z.K := by rfl) : PT X (.Compare a [.NotEq] [b] pos) (dT Z xc W (tTru blD (eBin neD fa fb))) := d_tcmp (op_neD hr.units) (by rw [hK]; exact op_neDD) ha hb (nobehind b (by decide) (by decide))
theorem t_is (ha : PE X a (dE Z xc W fa)) (hb : PE X b (dE Z xc W fb)) : PT X (.Compare a [.Is] [b] pos) (dT Z xc W (tTru blD (eBin isD fa fb))) := d_tcmp op_isC op_isD ha hb (nobehind b (by decide) (by decide))
theorem t_isn (ha : PE X a (dE Z xc W fa)) (hb : PE X b (dE Z xc W fb)) : PT X (.Compare a [.IsNot] [b] pos) (dT Z xc W (tTru blD (eBin isnD fa fb))) := d_tcmp op_isnC op_isnD ha hb (nobehind b (by decide) (by decide))
theorem d_lele (ha : PE X a (dE Z xc W fa)) (hb : PE X b (dE Z xc W fb)) (hc : PE X c (dE Z xc W fc)) (hm : lastMarks [.LtE, .LtE] [b, c] = false := by with_unfolding_all rfl) : PE X (.Compare a [.LtE, .LtE] [b, c] pos) (dE Z xc W (eChain leI leI fa fb fc)) := d_chain op_le op_leD op_le op_leD ha hb hc hm
theorem t_lele (ha : PE X a (dE Z xc W fa)) (hb : PE X b (dE Z xc W fb)) (hc : PE X c (dE Z xc W fc)) (hm : lastMarks [.LtE, .LtE] [b, c] = false := by with_unfolding_all rfl) : PT X (.Compare a [.LtE, .LtE] [b, c] pos) (dT Z xc W (tTru blD (eChain leI leI fa fb fc))) := d_tchain op_le op_leD op_le op_leD ha hb hc hm
/-! built-ins -/
theorem d_len (hm : X.mg "len" = none) (ha : PA X (e :: es) (dA Z xc W fs)) (hK : X.K = Z.K := by rfl) (hg : Gl X "len" := by rfl) (he : starEach (e :: es) X.env = (false, eval e X.env) :: starEach es X.env := by rfl) (hpl : (backTo pos (starEach es X.env)).any (·.1) = false := by rfl) : PE X (.Call (.Name "len" p) (e :: es) [] pos) (dE Z xc W (eApp lenD fs)) := d_callB call_len (by rw [hK]; exact c_len) hm ha hg (by decide +kernel) (by decide) (by decide) he hpl
theorem d_toint (hm : X.mg "int" = none) (ha : PA X (e :: es) (dA Z xc W fs)) (hg : Gl X "int" := by rfl) (he : starEach (e :: es) X.env = (false, eval e X.env) :: starEach es X.env := by rfl) (hpl : (backTo pos (starEach es X.env)).any (·.1) = false := by rfl) : PE X (.Call (.Name "int" p) (e :: es) [] pos) (dE Z xc W (eApp intD fs)) := d_callTy call_int1 c_int hm ha hg (by decide +kernel) (by decide) (by decide) he hpl
theorem d_max2 (hm : X.mg "max" = none) (ha : PA X (e :: es) (dA Z xc W fs)) (hc : X.calm = true := by rfl) (hg : Gl X "max" := by rfl) (he : starEach (e :: es) X.env = (false, eval e X.env) :: starEach es X.env := by rfl) (hpl : (backTo pos (starEach es X.env)).any (·.1) = false := by rfl) : PE X (.Call (.Name "max" p) (e :: es) [] pos) (dE Z xc W (eApp max2D fs)) := d_callB (call_max2 hc) c_max2 hm ha hg (by decide +kernel) (by decide) (by decide) he hpl
theorem d_min2 (hm : X.mg "min" = none) (ha : PA X (e :: es) (dA Z xc W fs)) (hc : X.calm = true := by rfl) (hg : Gl X "min" := by rfl) (he : starEach (e :: es) X.env = (false, eval e X.env) :: starEach es X.env := by rfl) (hpl : (backTo pos (starEach es X.env)).any (·.1) = false := by rfl) : PE X (.Call (.Name "min" p) (e :: es) [] pos) (dE Z xc W (eApp min2D fs)) := d_callB (call_min2 hc) c_min2 hm ha hg (by decide +kernel) (by decide) (by decide) he hpl
theorem d_gcd (hm : X.mg "gcd" = some (.builtin "math.gcd")) (ha : PA X (e :: es) (dA Z xc W fs)) (hg : Gl X "gcd" := by rfl) (he : starEach (e :: es) X.env = (false, eval e X.env) :: starEach es X.env := by rfl) (hpl : (backTo pos (starEach es X.env)).any (·.1) = false := by rfl) : PE X (.Call (.Name "gcd" p) (e :: es) [] pos) (dE Z xc W (eApp gcdD fs)) := d_callBfun cr_gcd c_gcd hm ha hg (by decide) he hpl
theorem d_list (hm : X.mg "list" = none) (ha : PA X (e :: es) (dA Z xc W fs)) (hK : X.K = Z.K := by rfl) (hg : Gl X "list" := by rfl) (he : starEach (e :: es) X.env = (false, eval e X.env) :: starEach es X.env := by rfl) (hpl : (backTo pos (starEach es X.env)).any (·.1) = false := by rfl) : PE X (.Call (.Name "list" p) (e :: es) [] pos) (dE Z xc W (eApp listD fs)) := d_callTy call_list_of (by rw [hK]; exact c_list) hm ha hg (by decide +kernel) (by decide) (by decide) he hpl
theorem d_tuple (hm : X.mg "tuple" = none) (ha : PA X (e :: es) (dA Z xc W fs)) (hK : X.K = Z.K := by rfl) (hg : Gl X "tuple" := by rfl) (he : starEach (e :: es) X.env = (false, eval e X.env) :: starEach es X.env := by rfl) (hpl : (backTo pos (starEach es X.env)).any (·.1) = false := by rfl) : PE X (.Call (.Name "tuple" p) (e :: es) [] pos) (dE Z xc W (eApp tupleD fs)) := d_callTy call_tuple_of (by rw [hK]; exact c_tuple) hm ha hg (by decide +kernel) (by decide) (by decide) he hpl
theorem d_all (hm : X.mg "all" = none) (ha : PA X (e :: es) (dA Z xc W fs)) (hc : X.calm = true := by rfl) (hK : X.K = Z.K := by rfl) (hg : Gl X "all" := by rfl) (he : starEach (e :: es) X.env = (false, eval e X.env) :: starEach es X.env := by rfl) (hpl : (backTo pos (starEach es X.env)).any (·.1) = false := by rfl) : PE X (.Call (.Name "all" p) (e :: es) [] pos) (dE Z xc W (eApp allD fs)) := d_callB (cr_all hc) (by rw [hK]; exact c_all) hm ha hg (by decide +kernel) (by decide) (by decide) he hpl
theorem d_any (hm : X.mg "any" = none) (ha : PA X (e :: es) (dA Z xc W fs)) (hc : X.calm = true := by rfl) (hK : X.K = Z.K := by rfl) (hg : Gl X "any" := by rfl) (he : starEach (e :: es) X.env = (false, eval e X.env) :: starEach es X.env := by rfl) (hpl : (backTo pos (starEach es X.env)).any (·.1) = false := by rfl) : PE X (.Call (.Name "any" p) (e :: es) [] pos) (dE Z xc W (eApp anyD fs)) := d_callB (cr_any hc) (by rw [hK]; exact c_any) hm ha hg (by decide +kernel) (by decide) (by decide) he hpl
theorem d_sum (hm : X.mg "sum" = none) (ha : PA X (e :: es) (dA Z xc W fs)) (hc : X.calm = true := by rfl) (hK : X.K = Z.K := by rfl) (hg : Gl X "sum" := by rfl) (he : starEach (e :: es) X.env = (false, eval e X.env) :: starEach es X.env := by rfl) (hpl : (backTo pos (starEach es X.env)).any (·.1) = false := by rfl) : PE X (.Call (.Name "sum" p) (e :: es) [] pos) (dE Z xc W (eApp sumD fs)) := d_callB (cr_sum hc) (by rw [hK]; exact c_sum) hm ha hg (by decide +kernel) (by decide) (by decide) he hpl
/-! methods of lists -/
theorem d_append (ho : PE X a (dE Z xc W fa)) (ha : PA X (e :: es) (dA Z xc W fs)) (hK : X.K = Z.K := by rfl) (hbase : attributeBase a "append" X.env (eval a X.env) = eval a X.env := by rfl)
    (hfew : ((backTo cpos (starEach (e :: es) X.env)).all (fun x => !x.1) && (backToKw cpos (keywordEach [] X.env)).all (fun x => x.1.isSome) && decide ((e :: es).length + ([] : List Keyword).length + (if ([] : List Keyword).isEmpty then 0 else 1) < 30)) = true := by rfl)
    (hline : (apos.endLine == cpos.line) = true := by rfl) (hs : starEach (e :: es) X.env = (false, eval e X.env) :: starEach es X.env := by rfl) (hplain : (backTo cpos (starEach es X.env)).any (·.1) = false := by rfl) : PE X (.Call (.Attribute a "append" apos) (e :: es) [] cpos) (dE Z xc W (eMt "list" appD fa fs)) :=
  d_mt PySem.F.plainAttrs_list PySem.F.slot_list_append PySem.F.type_list_append mt_append m_app ho ha hK hbase hfew hline hs hplain
theorem d_pop (ho : PE X a (dE Z xc W fa)) (hK : X.K = Z.K := by rfl) (hbase : attributeBase a "pop" X.env (eval a X.env) = eval a X.env := by rfl) (hline : (apos.endLine == cpos.line) = true := by rfl) : PE X (.Call (.Attribute a "pop" apos) [] [] cpos) (dE Z xc W (eMt "list" popD fa aNil)) :=
  d_mt0 PySem.F.plainAttrs_list PySem.F.slot_list_pop PySem.F.type_list_pop mt_pop m_pop ho hK hbase hline
theorem d_reverse (ho : PE X a (dE Z xc W fa)) (hK : X.K = Z.K := by rfl) (hbase : attributeBase a "reverse" X.env (eval a X.env) = eval a X.env := by rfl) (hline : (apos.endLine == cpos.line) = true := by rfl) : PE X (.Call (.Attribute a "reverse" apos) [] [] cpos) (dE Z xc W (eMt "list" revD fa aNil)) :=
  d_mt0 PySem.F.plainAttrs_list PySem.F.slot_list_reverse PySem.F.type_list_reverse mt_reverse m_rev ho hK hbase hline
end
/-- a while's turns by the int of a slot -/
def fuelI (i : Nat) : En → Sto → Nat := fun ρ _ => match ρ[i]? with
  | some (.d (.int j)) => j.toNat + 2
  | _ => 0
/-! ### the end -/
theorem walk_ofEB {l : PySem.W.OpenLaw} {n k : Nat} {q : Program} {loose : List Str} {XP : (Str → Option Value) → Heap → Prop} {YP : World → Heap → Prop} {d : DefRec} {x : Str}
    (hn : l.most = some n) (hn2 : n ≤ sizeLine) (hdf : d.params.defaults = []) (hr : Room k callerA) (F : ∀ (w : World) (mg : Str → Option Value) (fa : Addr) (h : Heap), YP w h → h.Ns mainGlobals mg → mg d.name = some (.ref fa) →
      ∃ (Z : SC) (fd : FuncData) (G : List D → Sto → R D), Z.K.In h ∧ (∀ (s : Shared) (u : Value), BindsTo s fd ⟨[u], []⟩ [(x, u)]) ∧
        (∀ ns : List Int, ns.length ≤ n → (∀ z ∈ ns, Builtin.Int.intBits z ≤ 1048576) → ∃ s, G [.fls (ns.map D.int)] [] = .ok (.bl true) s) ∧
        ∀ base : Heap, Z.K.In base → base.Ns mainGlobals mg → FnOk l.prog w Z.K mg base (L2.CX l.prog w) k fa fd [x] (spD Z G)) : PySem.W.WalkO q loose XP YP l.row.toRowW d [] (fun f vs => PySem.call f vs) := by
  refine Att.attach_callB hn hdf fun w s₀ s₁ mg mb fa o pm cd doc a vs ns G Y ho hd hcd hmg hobj hints hlen hbits hg => ?_; obtain ⟨Z, fd, Gf, KX, hb, hsp, hF⟩ := F w mg fa _ Y G.T.g hmg
  refine law_call KX G.T.g G.T.b G.T.builtins G.T.nolimit hg hobj hints (Nat.le_trans hlen hn2) hr hF hb (fun H hO hS => ?_) fun H e s' hc => ?_
  · obtain ⟨s, e⟩ := hsp ns hlen hbits
    have hz : ns.length ≤ sizeLine := Nat.le_trans hlen hn2
    have fz : FzL Z.K H a (ns.map V.int) := by
      rcases hS with (hS | ⟨ob, hS⟩) | hS
      · rcases hO a with z | ⟨ob, xs, z⟩
        · rw [z] at hS; cases hS
        · rw [z] at hS; cases hS
      · exact .inl ⟨ob, hS⟩
      · exact .inr hS
    refine ⟨[], [], [.fls (ns.map D.int)], ⟨rfl, List.Pairwise.nil, fun n a c h => by simp at h⟩, .cons (.fls fz (Rps.ints ns) (by simpa using hz)) .nil, ?_⟩
    rw [e]
    intro v H' ads' x g r
    cases r
    rfl
  · obtain ⟨_, _, _, _, _, _, _, _, _, _, _, _, z⟩ := hc
    exact z
end DL
namespace DL
open PySem PySem.Spec PyProof.Rows L2
section
variable {X : Cx} {Z : SC} {xc : Option Xc} {W : WX} {e : Expr} {fe : EF} {pos : Pos}
/-- isinstance(e, (S, T)), built-in classes -/
theorem d_isi2 (S T : Ty) {p p1 p2 pt : Pos} {x y : Str} {kt} (he : PE X e (dE Z xc W fe)) (hm : X.mg "isinstance" = none) (hmS : X.mg x = none) (hmT : X.mg y = none) (hx : x = Str.ofString S.name := by rfl) (hy : y = Str.ofString T.name := by rfl) (hS : S ≠ .none := by decide) (hT : T ≠ .none := by decide) (hK : X.K = Z.K := by rfl) (hg : Gl X "isinstance" := by rfl) (hgS : Gl X x := by rfl) (hgT : Gl X y := by rfl)
    (hvS : bootBuiltins x = some (.type S.name) := by decide +kernel) (hvT : bootBuiltins y = some (.type T.name) := by decide +kernel) (hnS : x ≠ "__name__" := by decide) (hdS : (x == ("__debug__" : Str)) = false := by decide) (hnT : y ≠ "__name__" := by decide) (hdT : (y == ("__debug__" : Str)) = false := by decide)
    (hst : starEach (e :: [.Tuple [.Name x p1, .Name y p2] kt pt]) X.env = (false, eval e X.env) :: starEach [.Tuple [.Name x p1, .Name y p2] kt pt] X.env := by rfl) (hst2 : starEach [.Tuple [.Name x p1, .Name y p2] kt pt] X.env = (false, eval (.Tuple [.Name x p1, .Name y p2] kt pt) X.env) :: starEach [] X.env := by rfl)
    (hst3 : starEach [.Name x p1, .Name y p2] X.env = (false, eval (.Name x p1) X.env) :: starEach [.Name y p2] X.env := by rfl) (hst4 : starEach [.Name y p2] X.env = (false, eval (.Name y p2) X.env) :: starEach [] X.env := by rfl)
    (hpl : (backTo pos (starEach [.Tuple [.Name x p1, .Name y p2] kt pt] X.env)).any (·.1) = false := by rfl) : PE X (.Call (.Name "isinstance" p) (e :: [.Tuple [.Name x p1, .Name y p2] kt pt]) [] pos) (dE Z xc W (eIsi [S, T] fe)) :=
  PE_imp (pe_callB call_isiT hg hm (by decide +kernel) (pa_cons he (pa_cons (pe_tup (pa_cons (pe_bltn hgS hmS hvS (v := .ty S.name) rfl hnS hdS) (pa_cons (pe_bltn hgT hmT hvT (v := .ty T.name) rfl hnT hdT) pa_nil hst4) hst3)) pa_nil hst2) hst) (by decide) (by decide) hst hpl) fun σ H Q ⟨ads, ρ, s, t, q⟩ => ⟨ads, ρ, s, t, bEE q fun d s1 v H1 ads1 x1 g1 r1 q1 => by
    rw [hK]
    unfold isiD at q1
    cases ht : d.ty s1 with
    | none => rw [ht] at q1; exact q1.elim
    | some ty =>
      rw [ht] at q1
      refine ⟨by show 2 ≤ sizeLine; decide, fun tp ht0 => ?_⟩
      have xn : Xt Z.K H1 ads1 (upd H1 tp (.tup [.ty S.name, .ty T.name])) ads1 := Xt.upd (soft_none ht0)
      have gn := g1.new (o := .tup [.ty S.name, .ty T.name]) ht0
      have k1 := kit_ty (K := Z.K) (kit_isTy ty S hS)
      have k2 := kit_ty (K := Z.K) (kit_isTy ty T hT)
      have k0 : PySem.W.kitAny Z.K (.type ty.name) [] = some false := rfl
      refine ⟨v, tp, [.ty S.name, .ty T.name], .type ty.name, [.type S.name, .type T.name], isTy ty S || isTy ty T, rfl, upd_same, .cons (.ty _) (.cons (.ty _) .nil), ty_ok gn (r1.mono xn) ht, ?_, ?_⟩
      · refine kitAny_cons k1 (fun e1 => ?_) fun e1 => by rw [e1]; rfl
        rw [e1, Bool.false_or]
        exact kitAny_cons k2 (fun e2 => by rw [e2]; exact k0) fun e2 => e2
      · have q2 : PoE Z W σ H1 ads1 Q (.ok (.bl (isTy ty S || isTy ty T)) s1) := by simpa using q1
        exact q2.ok' xn gn (.bl _)⟩
end
end DL

/-! DLX1: an own error class over an own base over ValueError, whose __init__ is super().__init__(text) and stores of its parameters. -/
namespace PySem
namespace XV
open PySem.W PySem.Calls PyProof.Rows PySem.HandSPX
/-! ### the text of __init__ -/
def xSup (msg : Str) (j : Nat) (a b c d e f : Pos) : Stmt := .Expr (.Call (.Attribute (.Call (.Name "super" a) [] [] b) "__init__" c) [.Constant (.str msg) j d] [] e) f
def xSt (x : Str) (a b c d : Pos) : Stmt := .Assign [.Attribute (.Name "self" a) x b] (.Name x c) d
/-- what the written part says of the class at C and of its __init__ -/
structure XCls (P : Program) (K : Frag) (C : Addr) (fs : List Str) : Prop where
  cls : ∃ nm q N bs bm sn sub ab col dd k0 k1 k2 k3 k5, K.lookup C = some (excClassObj nm q C N bs bm true sn sub ab col dd k0 k1 k2 k3 k5 "ValueError.__new__") ∧ refsVE bm = true
  sa : findIn K (.ref C) "__setattr__" = some (some (.builtin "object.__setattr__"))
  noF : ∀ f ∈ fs, findIn K (.ref C) f = some none
  kC : keepIn K (.ref C) = true
  exC : subIn K (.ref C) (.type "BaseException") = some true
  tyC : typeIn K (.ref C) = some (.type "type")
  mC : mroIn K C (.ref C) = some true
  mV : mroIn K C (.type "ValueError") = some true
  sup : ks_superIn K C C "__init__" = some (some (.builtin "ValueError.__init__"))
  opq : nsIn K cStatics "thirdparty.any" = some none
section
variable {prog : Program} {w : World} {M : Model} {A : Around} {E : Value → Shared → Prop} {s : Shared} {K : Frag} {C x : Addr}
theorem mw_callWith {pos : Pos} {u : Addr} {i : String} {env : Env} {e : Expr} {Q : Value → Shared → Prop}
    (h : wpAny M A (spliced (backTo pos (starEach [e] env))) (fun vs s₁ => s₁.heap.get? u = some (kxs_mw i x) ∧ wpAny M A (call (.ref u) vs) Q E s₁) E s)
    (he : starEach [e] env = (false, eval e env) :: starEach [] env := by rfl) (hp : (backTo pos (starEach [] env)).any (·.1) = false := by rfl) : wpAny M A (callWith pos (.ref u) [] (backTo pos (starEach [e] env)) []) Q E s := by
  rw [he] at h ⊢
  exact kxs_callWith (i := i) (x := x) (by show (false || (backTo pos (starEach [] env)).any (·.1)) = false; rw [hp]; rfl) (evalArgs_plain h)
/-- ValueError.__init__ bound to the fresh exception, called -/
theorem mw_call {nm q : Str} {N : Addr} {bs bm : List Value} {sn : List Str} {sub : List Value} {ab : Bool} {col : Option Bool} {dd : Option Addr} {k0 k1 k2 k3 k5 : Option Value} {h : Heap} {g : Array GenState} {d : Drawn} {t : Nat} {os : OsState} {u t0 : Addr} {rest : List Value} {Q : Value → Shared → Prop}
    (hC : h.get? C = some (excClassObj nm q C N bs bm true sn sub ab col dd k0 k1 k2 k3 k5 "ValueError.__new__")) (he : h.get? x = some (excO C t0)) (hu : h.get? u = some (kxs_mw "ValueError.__init__" x)) (hz : rest.length ≤ sizeLine)
    (hq : ∀ h' t1, (∀ b o, b ≠ x → h.get? b = some o → h'.get? b = some o) → h'.get? x = some (excO C t1) → Q .none ⟨h', g, d, t, os⟩) : wpAny (model prog w) A (call (.ref u) rest) Q E ⟨h, g, d, t, os⟩ := by
  have FB := PySem.F.excBase_ValueError
  refine wpAny_call (codeAny_of_tree ?_); show wpAny _ A.in1 (callAny (.ref u) ⟨rest, []⟩) _ _ _
  simp only [callAny]
  refine wpAny_bind (wpAny_load hu ?_); have m1 : (Value.type "method-wrapper" == Value.type "method" || Value.type "method-wrapper" == Value.type "builtin_function_or_method" ||
      Value.type "method-wrapper" == Value.type "method-wrapper") = true := by decide
  have m2 : (Value.type "method-wrapper" != Value.type "method") = true := by decide
  simp only [kxs_mw, m1, if_true]
  refine KFB.if_so m2 ?_
  refine wpAny_bind (check_bound_init FB.toExcCallFacts hC he rfl (wpAny_bind (wpAny_pure (wpAny_pure ⟨plainId_quiet FB.init.plain _, codeAny_builtin FB.initEntry ?_⟩))))
  refine exc_init_tree (cls := .ref C) (t0 := t0) (dv := none) (c2 := .none) (c3 := .none) (b4 := .bool false) he hz fun h' k e1 _ => ?_
  exact hq h' _ k e1

/-- what super().__init__(text) leaves of a fresh exception at x -/
structure FreshTo (h h' : Heap) (x C : Addr) : Prop where
  keep : ∀ b o, b ≠ x → h.get? b = some o → h'.get? b = some o
  obj : ∃ t1, h'.get? x = some (excO C t1)
/-- the places of the def that runs -/
abbrev xEnv (qual : Str) (sc : Scope) (L fI cda cc : Addr) : Env := ksEnv qual sc L fI (.ref cda) cc
/-- what the text of a def's first statement, super().__init__(text), must let be seen -/
structure SupTxt (qual : Str) (sc : Scope) (msg : Str) (j : Nat) (a b c d e f : Pos) : Prop where
  kind : sc.kind = .function
  ks : sc.names.lookup ("super" : Str) = some .globalImplicit
  kc : sc.names.lookup ("__class__" : Str) = some .free
  kl : sc.names.lookup ("self" : Str) = some .local
  ev : ∀ L fI cda cc, ∃ pl, eval (.Call (.Attribute (.Call (.Name "super" a) [] [] b) "__init__" c) [.Constant (.str msg) j d] [] e) (xEnv qual sc L fI cda cc) = (do
      let ov ← attributeBase (.Call (.Name "super" a) [] [] b) "__init__" (xEnv qual sc L fI cda cc) (eval (.Call (.Name "super" a) [] [] b) (xEnv qual sc L fI cda cc))
      standAt c.atName
      let (g, first) ← holding [ov] (getMethod ov "__init__" pl)
      callWith e g first (backTo e (starEach [.Constant (.str msg) j d] (xEnv qual sc L fI cda cc))) [])
  int : ∀ L fI cda cc, interactive (xEnv qual sc L fI cda cc) = false
  sw : ∀ L fI cda cc, swapsWith (.Call (.Attribute (.Call (.Name "super" a) [] [] b) "__init__" c) [.Constant (.str msg) j d] [] e) none f.line (xEnv qual sc L fI cda cc) = pure false
  small : msg.length ≤ sizeLine
theorem super_run {qual msg : Str} {sc : Scope} {body : List Stmt} {L fI cda cc t0 : Addr} {j : Nat} {a b c d e f : Pos} {fd : FuncData} {ar : Arg} {of oc : Obj} {vs : Array Value} {file : Str} {tf : Tok} {nm q : Str} {N : Addr} {bs bm : List Value} {sn : List Str} {sub : List Value} {ab : Bool} {col : Option Bool} {dd : Option Addr} {k0 k1 k2 k3 k5 : Option Value}
    {m mg mb : Str → Option Value} {Q : Flow → Shared → Prop}
    (X : K.In s.heap) (hC : K.lookup C = some (excClassObj nm q C N bs bm true sn sub ab col dd k0 k1 k2 k3 k5 "ValueError.__new__")) (hx : s.heap.get? x = some (excO C t0)) (hnx : K.lookup x = none)
    (mC : mroIn K C (.ref C) = some true) (mV : mroIn K C (.type "ValueError") = some true) (sup : ks_superIn K C C "__init__" = some (some (.builtin "ValueError.__init__"))) (opq : nsIn K cStatics "thirdparty.any" = some none) (ST : SupTxt qual sc msg j a b c d e f)
    (hf : s.heap.get? fI = some of) (hfd : of.data = .func fd) (har : (fd.params.posonlyargs ++ fd.params.args).head? = some ar) (hself : ar.arg = PySem.Str.ofString "self") (hcc : s.heap.get? cda = some oc) (hoc : oc.data = .fields vs) (hvs : vs[2]? = some (.str file tf)) (hfile : ((prog.main.file : Str) == file) = true)
    (htop : (prog.main.scope.names.lookup ("super" : Str)).isSome = false) (hcell : s.heap.IsCell cc (some (.ref C))) (hL : s.heap.Ns L m) (hms : m "self" = some (.ref x)) (hG : s.heap.Ns mainGlobals mg) (hgs : mg "super" = none) (hB : s.heap.Ns builtinsNs mb) (hbs : mb "super" = some (.type "super"))
    (hq : ∀ h' tk, FreshTo s.heap h' x C → Q .next { s with heap := h', toks := tk }) :
    wpAt (model prog w) A (.func body (xEnv qual sc L fI cda cc)) (exec (xSup msg j a b c d e f) (xEnv qual sc L fI cda cc)) Q E s := by
  have hks : (xEnv qual sc L fI cda cc).kindOf "super" = some .globalImplicit := ST.ks
  have hkc : (xEnv qual sc L fI cda cc).kindOf "__class__" = some .free := ST.kc
  have hkl : (xEnv qual sc L fI cda cc).kindOf "self" = some .local := ST.kl
  obtain ⟨hh, g, dr, tk, os⟩ := s
  have hC' := X _ _ hC
  have hcl : clsIn K C = some { name := nm, bases := bs, mro := .ref C :: bm, ns := N, qualname := q, hasDict := true, slotNames := sn, subclasses := sub, abstract := ab, collection := col, hasDel := false } := by unfold clsIn; rw [hC] <;> rfl
  obtain ⟨pl, hev⟩ := ST.ev L fI cda cc
  refine ks_wpAt_Expr_any (ks_wpAt_MethodCall (pl := pl) (ks_wpAt_super_base hks hkc (by decide) rfl hf hfd har rfl hcc hoc hvs hfile htop ?_) hev) (ST.int _ _ _ _) (ST.sw _ _ _ _)
  refine ks_loadName_global ST.kind hks (loadGlobal_builtin hG hgs hB hbs ⟨rfl, ?_⟩)
  refine wpAny_loadName_free ST.kind hkc rfl hcell ?_
  rw [hself]
  refine wpAny_loadName_local ST.kind hkl hL hms ?_
  refine ks_wpAny_isType_cls hC' rfl ⟨rfl, ?_⟩
  refine ks_wpAny_call_super hC' rfl hx rfl (fun c z => by cases z) (looks_mroIn X mC) fun h1 e1 k1 => ?_
  have X1 : K.In h1 := X.keeps k1
  have hx1 := k1 _ _ hx
  have I1 : InstAt h1 x (excO C t0) C none := ⟨hx1, rfl, rfl, trivial⟩
  have hxC : x ≠ C := fun z => by rw [z, hC] at hnx; cases hnx
  have sup' : alongIn K "__init__" (((Value.ref C :: bm).dropWhile (· != .ref C)).drop 1) = some (some (.builtin "ValueError.__init__")) := by
    have z := sup
    unfold ks_superIn at z
    rw [hcl] at z
    exact z
  refine kxs_getMethod kxs_ValueError e1 (looks_opaque X1 opq) (l₀ := .ref C :: bm) ((looks_clsIn X1 hcl).andThen .now) rfl X1 sup' (I1.type.andThen (looks_mroIn X1 mV)) hxC (by decide) ?_
  refine mw_callWith (i := "ValueError.__init__") (x := x) ?_
  show wpAny _ _ (spliced ((false, eval (.Constant (.str msg) j d) (xEnv qual sc L fI cda cc)) :: [])) _ _ _
  refine Calls.spliced_cons (Calls.Constant_str (Calls.spliced_nil ⟨Heap.get?_push_at rfl rfl, ?_⟩))
  have up : ∀ b o, h1.get? b = some o → (h1.push (kxs_mw "ValueError.__init__" x)).get? b = some o := fun b o z => Heap.get?_push_of_some _ z
  refine mw_call (up _ _ (k1 _ _ hC')) (up _ _ hx1) (Heap.get?_push_at rfl rfl) (by show 1 ≤ sizeLine; decide) fun h' t1 k e2 => ?_
  exact hq h' _ ⟨fun b o nb z => k b o nb (up _ _ (k1 _ _ z)), t1, e2⟩
/-- self.f = v on the exception, its dict there already -/
theorem osa_more {hp : Heap} {g : Array GenState} {d : Drawn} {t : Nat} {os : OsState} {R : Result → Shared → Prop} {name : Str} {tk : Tok} {v : Value} {dx : Addr} {fv : Array Value} {cd : ClassData} {m0 : Str → Option Value} {nl : List Str}
    (X : K.In hp) (hx : hp.get? x = some { cls := .ref C, dict := some dx, data := .fields fv }) (hns : hp.Ns1 dx m0) (hw : Within m0 nl) (hz : nl.length ≤ 1000) (hcd : clsIn K C = some cd) (hm : refsVE cd.mro = true) (hh : cd.hasDict = true)
    (ha : findIn K (.ref C) name = some none)
    (hq : ∀ h' tk', (∀ b o, b ≠ dx → hp.get? b = some o → h'.get? b = some o) → h'.Ns1 dx (fun y => if y = name then some v else m0 y) → R (.ok (.ret .none)) ⟨h', g, d, tk', os⟩) : codeAny (model prog w) A (.call (.builtin "object.__setattr__") ⟨[.ref x, .str name tk, v], []⟩) R ⟨hp, g, d, t, os⟩ := by
  obtain ⟨oD, esD, epD, hoD, hdD, _⟩ := hns.count hw; have I : InstAt hp x { cls := .ref C, dict := some dx, data := .fields fv } C (some oD) := ⟨hx, rfl, rfl, hoD⟩
  have SF := PySem.F.store_object; have hob : cd.mro.contains (.type "object") = true := (refsVE_contains "object" _ hm).trans (by decide +kernel)
  have mo : mroIn K C (.type "object") = some true := by
    unfold mroIn
    rw [hcd, Option.bind_some, if_neg (by rw [refsVE_ne hm]; decide), hob]
  refine codeAny_call_builtin SF.slot.plain SF.entry
    (@W.check_slot (model prog w) _ _ ⟨hp, g, d, t, os⟩ "object.__setattr__" "object" "__setattr__" (.ref x) [.str name tk, v] [] _ SF.kind SF.split (I.type.andThen (looks_mroIn X mo)) (SF.args (.ref x) (.str name tk) v) ?_)
  have l1 : Looks (model prog w) hp (mroOf (.ref C)) cd.mro := (looks_clsIn X hcd).andThen .now
  have l2 : Looks (model prog w) hp (Builtin.ObjectAttr.storeTaker? none) none := .now
  have l3 : Looks (model prog w) hp (classData C) cd := looks_clsIn X hcd
  rw [W.osa_eq, refuse_eq]
  refine wpAny_bind (wpAny_bind (I.type.at (wpAny_bind (l1.at ?_))))
  rw [refsVE_pass _ _ hm]
  refine wpAny_pure (wpAny_bind (I.type.at (wpAny_bind ((looks_findIn X ha).at (wpAny_bind (l2.at ?_))))))
  show wpAny _ _ (Builtin.ObjectAttr.storeInOwnDict (.ref x) (.ref C) (.str name tk) name v false) _ _ _
  obtain ⟨nm, bs, mro, ns, qn, hd, sn, sb, ab, col, del⟩ := cd; dsimp only at hh
  subst hh
  unfold Builtin.ObjectAttr.storeInOwnDict Builtin.ObjectAttr.ownDictForStores
  repeat (first | with_reducible refine ESX.store_in_old hns hw hz ?_ | with_reducible refine wpAny_loadPart_at hx ?_ | with_reducible refine l3.at ?_ | wp_step)
  intro h' tk' hn' hs; exact hq h' tk' (fun b o hb ho => (hs.2 b hb).trans ho) hn'
/-- the object of an exception with a dict -/
abbrev excD (C t d : Addr) : Obj := { cls := .ref C, dict := some d, data := .fields #[.ref t, .none, .none, .none, .bool false, .none] }
/-- what a new exception is -/
structure Made (h h' : Heap) (x C dx : Addr) (mp : Str → Option Value) : Prop where
  keep : ∀ b o, b ≠ x → h.get? b = some o → h'.get? b = some o
  obj : ∃ t1, h'.get? x = some (excD C t1 dx)
  big : h.objs.size ≤ dx
  dne : dx ≠ x
  ns : h'.Ns1 dx mp
section
variable {qual : Str} {sc : Scope} {L fI cda cc : Addr} {m : Str → Option Value} {f : Str} {v : Value} {qa qb qc qd : Pos} {cd : ClassData} {Q : Flow → Shared → Prop}
theorem store1 {t0 : Addr} (X : K.In s.heap) (hk : sc.kind = .function) (hl : sc.names.lookup f = some .local) (hs : sc.names.lookup ("self" : Str) = some .local) (hnd : (f == ("__debug__" : Str)) = false) (hL : s.heap.Ns L m) (mf : m f = some v) (ms : m "self" = some (.ref x))
    (hx : s.heap.get? x = some (excO C t0)) (sa : findIn K (.ref C) "__setattr__" = some (some (.builtin "object.__setattr__"))) (hcd : clsIn K C = some cd) (hm : refsVE cd.mro = true) (hh : cd.hasDict = true) (nf : findIn K (.ref C) f = some none)
    (hsw : swapsWith (.Name f qc) (some (.Attribute (.Name "self" qa) f qb)) qd.line (xEnv qual sc L fI cda cc) = pure false)
    (hq : ∀ h' tk dx, Made s.heap h' x C dx (fun y => if y = f then some v else none) → Q .next { s with heap := h', toks := tk }) :
    wpAny (model prog w) A (exec (xSt f qa qb qc qd) (xEnv qual sc L fI cda cc)) Q E s := by
  refine plainObj_wpAny_Assign_Attribute ?_ hsw
  refine wpAny_Name (wpAny_loadName_local hk hl hL mf ?_) hnd
  refine wpAny_Name (wpAny_loadName_local hk hs hL ms ?_) (by decide)
  refine set_plain X (ox := excO C t0) (od := none) ⟨hx, rfl, rfl, trivial⟩ sa ?_
  obtain ⟨hp, g, dr, tk, os⟩ := s; exact exc_osa X hx hcd hm hh nf fun h' tk' dx k dn dne e1 ns => hq h' tk' dx ⟨k, ⟨t0, e1⟩, dn, dne, ns⟩
theorem store2 {t0 dx : Addr} {m0 : Str → Option Value} {nl : List Str} (X : K.In s.heap) (hk : sc.kind = .function) (hl : sc.names.lookup f = some .local) (hs : sc.names.lookup ("self" : Str) = some .local) (hnd : (f == ("__debug__" : Str)) = false) (hL : s.heap.Ns L m) (mf : m f = some v) (ms : m "self" = some (.ref x))
    (hx : s.heap.get? x = some (excD C t0 dx)) (hns : s.heap.Ns1 dx m0) (hw : Within m0 nl) (hz : nl.length ≤ 1000) (sa : findIn K (.ref C) "__setattr__" = some (some (.builtin "object.__setattr__"))) (hcd : clsIn K C = some cd) (hm : refsVE cd.mro = true) (hh : cd.hasDict = true) (nf : findIn K (.ref C) f = some none)
    (hsw : swapsWith (.Name f qc) (some (.Attribute (.Name "self" qa) f qb)) qd.line (xEnv qual sc L fI cda cc) = pure false)
    (hq : ∀ h' tk, (∀ b o, b ≠ dx → s.heap.get? b = some o → h'.get? b = some o) → h'.Ns1 dx (fun y => if y = f then some v else m0 y) → Q .next { s with heap := h', toks := tk }) :
    wpAny (model prog w) A (exec (xSt f qa qb qc qd) (xEnv qual sc L fI cda cc)) Q E s := by
  refine plainObj_wpAny_Assign_Attribute ?_ hsw
  refine wpAny_Name (wpAny_loadName_local hk hl hL mf ?_) hnd
  refine wpAny_Name (wpAny_loadName_local hk hs hL ms ?_) (by decide)
  obtain ⟨oD, _, _, hoD, _⟩ := hns.count hw
  refine set_plain X (ox := excD C t0 dx) (od := some oD) ⟨hx, rfl, rfl, hoD⟩ sa ?_
  obtain ⟨hp, g, dr, tk, os⟩ := s; exact osa_more X hx hns hw hz hcd hm hh nf hq
end
end
end XV
end PySem

/-! DLX2: the call of such a class. -/
namespace PySem
namespace XV
open PySem.W PySem.Calls PyProof.Rows PySem.HandSPX
theorem kept_butX {K : Frag} {h h' : Heap} {x : Addr} (X : K.In h) (hx : K.lookup x = none) (k : ∀ b o, b ≠ x → h.get? b = some o → h'.get? b = some o) : K.In h' := fun a o e =>
  k a o (fun z => by
    rw [z, hx] at e
    cases e) (X a o e)
/-- the places where the written part says how __init__ of the class at C stands -/
structure XInit (P : Program) (K : Frag) (C : Addr) (fs : List Str) (qual : Str) (sc : Scope) (body : List Stmt) (params : Arguments) : Prop where
  c : XCls P K C fs
  ini : ∃ (fI cda cc : Addr) (kV doc pm ct oc : Value) (an od : Option Addr) (osl : Array (Option Value)), findIn K (.ref C) "__init__" = some (some (.ref fI)) ∧ typeIn K (.ref fI) = some (.type "function") ∧
    K.lookup fI = some ⟨oc, od, .func (ksFn "__init__" qual params body sc .none kV doc pm an (.ref cda) ct cc), osl⟩ ∧ codeIn K (.ref cda) qual = true ∧
    (∃ (ccl : Value) (cdd : Option Addr) (vs : Array Value) (ccs : Array (Option Value)) (file : Str) (tf : Tok), K.lookup cda = some ⟨ccl, cdd, .fields vs, ccs⟩ ∧ vs[2]? = some (.str file tf) ∧ ((P.main.file : Str) == file) = true) ∧
    ∃ (cl : Value) (cld : Option Addr) (csl : Array (Option Value)), K.lookup cc = some ⟨cl, cld, .cell (some (.ref C)), csl⟩
/-- the text of such an __init__ of one field -/
structure Txt1 (f qual : Str) (sc : Scope) (body : List Stmt) (params : Arguments) : Prop where
  ex : ∃ (msg : Str) (j : Nat) (a b c d e g qa qb qc qd : Pos), body = [xSup msg j a b c d e g, xSt f qa qb qc qd] ∧ SupTxt qual sc msg j a b c d e g ∧
    ∀ L fI cda cc, swapsWith (.Name f qc) (some (.Attribute (.Name "self" qa) f qb)) qd.line (xEnv qual sc L fI cda cc) = pure false
  loc : sc.names.lookup f = some .local
  cell : ∀ y ∈ sc.names, y.2 ≠ .cell
  nd : (f == ("__debug__" : Str)) = false
  ns : (("self" : Str) == f) = false
  co : sc.isCoroutine = false
  gen : sc.isGenerator = false
  ar : ∃ p, (params.posonlyargs ++ params.args).head? = some p ∧ p.arg = PySem.Str.ofString "self"
  bi : ∀ (kV doc pm : Value) (an : Option Addr) (cda cc : Addr) (ct u v : Value), bindArgs (ksFn "__init__" qual params body sc .none kV doc pm an (.ref cda) ct cc) ⟨[u, v], []⟩ = pure [(("self" : Str), u), (f, v)]
/-- the same of two fields -/
structure Txt2 (f1 f2 qual : Str) (sc : Scope) (body : List Stmt) (params : Arguments) : Prop where
  ex : ∃ (msg : Str) (j : Nat) (a b c d e g qa qb qc qd ra rb rc rd : Pos), body = [xSup msg j a b c d e g, xSt f1 qa qb qc qd, xSt f2 ra rb rc rd] ∧ SupTxt qual sc msg j a b c d e g ∧
    (∀ L fI cda cc, swapsWith (.Name f1 qc) (some (.Attribute (.Name "self" qa) f1 qb)) qd.line (xEnv qual sc L fI cda cc) = pure false) ∧
    ∀ L fI cda cc, swapsWith (.Name f2 rc) (some (.Attribute (.Name "self" ra) f2 rb)) rd.line (xEnv qual sc L fI cda cc) = pure false
  loc1 : sc.names.lookup f1 = some .local
  loc2 : sc.names.lookup f2 = some .local
  cell : ∀ y ∈ sc.names, y.2 ≠ .cell
  nd1 : (f1 == ("__debug__" : Str)) = false
  nd2 : (f2 == ("__debug__" : Str)) = false
  ns1 : (("self" : Str) == f1) = false
  ns2 : (("self" : Str) == f2) = false
  ne : (f1 == f2) = false
  co : sc.isCoroutine = false
  gen : sc.isGenerator = false
  ar : ∃ p, (params.posonlyargs ++ params.args).head? = some p ∧ p.arg = PySem.Str.ofString "self"
  bi : ∀ (kV doc pm : Value) (an : Option Addr) (cda cc : Addr) (ct u v v' : Value), bindArgs (ksFn "__init__" qual params body sc .none kV doc pm an (.ref cda) ct cc) ⟨[u, v, v'], []⟩ = pure [(("self" : Str), u), (f1, v), (f2, v')]
/-- what the module's names say that super() asks -/
structure SupG (P : Program) (mg mb : Str → Option Value) (h : Heap) : Prop where
  top : (P.main.scope.names.lookup ("super" : Str)).isSome = false
  g : h.Ns mainGlobals mg
  gs : mg "super" = none
  b : h.Ns builtinsNs mb
  bs : mb "super" = some (.type "super")
/-- a made exception -/
structure OwnX (h h' : Heap) (e C d : Addr) (mp : Str → Option Value) : Prop where
  keep : ∀ b o, h.get? b = some o → h'.get? b = some o
  new : h.objs.size ≤ e
  obj : ∃ t, h'.get? e = some (excD C t d)
  dbig : h.objs.size ≤ d
  dne : d ≠ e
  ns : h'.Ns1 d mp
section
variable {prog : Program} {w : World} {A : Around} {R : Result → Shared → Prop} {s : Shared} {K : Frag} {C x : Addr} {mg mb : Str → Option Value} {qual : Str} {sc : Scope} {body : List Stmt} {params : Arguments}
theorem ns_keep {h h' : Heap} {L : Addr} {m : Str → Option Value} (hL : h.Ns L m) (k : ∀ o, h.get? L = some o → h'.get? L = some o) : h'.Ns L m := by
  obtain ⟨o, es, ep, e, r⟩ := hL
  exact ⟨o, es, ep, k o e, r⟩
theorem init1 {f : Str} {v : Value} (T : XInit prog K C [f] qual sc body params) (Tx : Txt1 f qual sc body params) {fI : Addr} (hfi : findIn K (.ref C) "__init__" = some (some (.ref fI))) {t0 : Addr} (X : K.In s.heap) (hlim : s.heap.NoLimit) (G : SupG prog mg mb s.heap) (hG : K.lookup mainGlobals = none ∨ mainGlobals ≠ x) (hgx : mainGlobals ≠ x) (hbx : builtinsNs ≠ x)
    (hx : s.heap.get? x = some (excO C t0)) (hnx : K.lookup x = none) (hroom : A.depth < recursionLimit)
    (hq : ∀ h' tk dx, Made s.heap h' x C dx (fun y => if y = f then some v else none) → R (.ok (.ret .none)) { s with heap := h', toks := tk }) :
    codeAny (model prog w) A (.call (.ref fI) ⟨[.ref x, v], []⟩) R s := by
  obtain ⟨fI', cda, cc, kV, doc, pm, ct, oc, an, od, osl, i1, i2, i3, i4, ⟨ccl, cdd, vs, ccs, file, tf, c1, c2, c3⟩, cl, cld, csl, c4⟩ := T.ini
  rw [hfi] at i1; cases i1
  obtain ⟨msg, j, a, b, c, d, e, g, qa, qb, qc, qd, rfl, ST, SW⟩ := Tx.ex
  obtain ⟨nm, q, N, bs, bm, sn, sub, ab, col, dd, k0, k1, k2, k3, k5, hC, hbm⟩ := T.c.cls
  obtain ⟨ar, har, hself⟩ := Tx.ar
  have hcl : clsIn K C = some { name := nm, bases := bs, mro := .ref C :: bm, ns := N, qualname := q, hasDict := true, slotNames := sn, subclasses := sub, abstract := ab, collection := col, hasDel := false } := by unfold clsIn; rw [hC] <;> rfl
  refine ks_codeAny_call_defAt (binds := [(("self" : Str), .ref x), (f, v)]) hroom (X _ _ i3) rfl hlim (codeRec_of X i4) rfl (.of_eq (Tx.bi _ _ _ _ _ _ _ _ _)) Tx.cell (fun y hy => ?_) (fun h0 hn k => ?_) Tx.co Tx.gen ST.kind
  · rcases List.mem_cons.1 hy with rfl | hy
    · exact ST.kl
    · rcases List.mem_cons.1 hy with rfl | hy
      · exact Tx.loc
      · cases hy
  have hxL : x ≠ s.heap.objs.size := Nat.ne_of_lt (Heap.lt_size hx)
  have X0 : K.In h0 := X.keeps k
  have hx0 := k _ _ hx
  have m1 : ([(("self" : Str), Value.ref x), (f, v)].reverse).lookup ("self" : Str) = some (.ref x) := by
    show List.lookup _ [(f, v), (("self" : Str), Value.ref x)] = _
    simp only [List.lookup, Tx.ns]
    rfl
  have m2 : ([(("self" : Str), Value.ref x), (f, v)].reverse).lookup f = some v := by
    show List.lookup _ [(f, v), (("self" : Str), Value.ref x)] = _
    simp only [List.lookup, beq_self_eq_true]
  show wpAt _ _ (.func _ (xEnv qual sc s.heap.objs.size fI cda cc)) (execs _ (xEnv qual sc s.heap.objs.size fI cda cc)) _ _ _
  refine ks_wpAt_execs_cons (super_run (C := C) (x := x) (s := { s with heap := h0, toks := _ }) X0 hC hx0 hnx T.c.mC T.c.mV T.c.sup T.c.opq ST (X0 _ _ i3) rfl har hself (X0 _ _ c1) rfl c2 c3 G.top ⟨_, X0 _ _ c4, rfl⟩ hn m1 (G.g.keeps k) G.gs (G.b.keeps k) G.bs fun h1 tk1 F1 => ?_)
  obtain ⟨t1, hx1⟩ := F1.obj
  have X1 : K.In h1 := kept_butX X0 hnx F1.keep
  have hn1 := ns_keep hn fun o z => F1.keep _ o hxL.symm z
  refine ks_wpAt_execs_cons (wpAt_of_wpAny (store1 (s := { s with heap := h1, toks := tk1 }) X1 ST.kind Tx.loc ST.kl Tx.nd hn1 m2 m1 hx1 T.c.sa hcl (show refsVE (.ref C :: bm) = true from hbm) rfl (T.c.noF f (by simp)) (SW _ _ _ _) fun h2 tk2 dx M => ?_))
  refine wpAt_of_wpAny (wpAny_execs_nil ?_)
  have z : s.heap.objs.size ≤ h1.objs.size := Nat.le_of_lt (hn1.lt)
  exact hq h2 tk2 dx ⟨fun b' o nb e' => M.keep b' o nb (F1.keep b' o nb (k b' o e')), M.obj, Nat.le_trans z M.big, M.dne, M.ns⟩
theorem made1 {f : Str} {v : Value} (T : XInit prog K C [f] qual sc body params) (Tx : Txt1 f qual sc body params) (X : K.In s.heap) (hlim : s.heap.NoLimit) (G : SupG prog mg mb s.heap) (hroom : A.depth + 1 < recursionLimit)
    (hq : ∀ h' tk e d, OwnX s.heap h' e C d (fun y => if y = f then some v else none) → R (.ok (.ret (.ref e))) { s with heap := h', toks := tk }) :
    codeAny (model prog w) A (.call (.ref C) ⟨[v], []⟩) R s := by
  obtain ⟨nm, q, N, bs, bm, sn, sub, ab, col, dd, k0, k1, k2, k3, k5, hC, hbm⟩ := T.c.cls
  obtain ⟨fI, _, _, _, _, _, _, _, _, _, _, i1, i2, _⟩ := T.ini
  obtain ⟨hp, g, dr, tk, os⟩ := s; have k : ∀ b o, hp.get? b = some o → ((hp.push (kdv_tup [v])).push (excO C hp.objs.size)).get? b = some o := fun b o e => Heap.get?_push_of_some _ (Heap.get?_push_of_some _ e)
  have hget : ((hp.push (kdv_tup [v])).push (excO C hp.objs.size)).get? (hp.objs.size + 1) = some (excO C hp.objs.size) := by heap_get
  have fresh : ∀ b o, hp.get? b = some o → b ≠ hp.objs.size + 1 := fun b o e z => by
    rw [z] at e
    exact absurd (Nat.lt_of_succ_lt (Heap.lt_size e)) (Nat.lt_irrefl _)
  have hnx : K.lookup (hp.objs.size + 1) = none := by
    cases e : K.lookup (hp.objs.size + 1) with
    | none => rfl
    | some o => exact absurd rfl (fresh _ o (X _ _ e))
  have gx : ∀ {L : Addr} {m : Str → Option Value}, hp.Ns L m → L ≠ hp.objs.size + 1 := fun ⟨o, _, _, e, _⟩ => fresh _ o e
  refine call_own PySem.F.excBase_ValueError (fun z => refsVE_contains z bm hbm) (X _ _ hC) (looks_findIn X i1) (fun self => bind_fn X self i2) (by show 1 ≤ sizeLine; decide) ?_
  refine init1 (s := ⟨(hp.push (kdv_tup [v])).push (excO C hp.objs.size), g, dr, tk, os⟩) T Tx i1 (X.keeps k) (hlim.keeps k) ⟨G.top, G.g.keeps k, G.gs, G.b.keeps k, G.bs⟩ (.inr (gx G.g)) (gx G.g) (gx G.b) hget hnx (by show A.depth + 1 < recursionLimit; exact hroom) fun h' tk' dx M => ?_
  have z : hp.objs.size + 1 + 1 ≤ dx := by
    have q := M.big
    rw [Heap.size_push, Heap.size_push] at q
    exact q
  exact ⟨rfl, hq h' tk' (hp.objs.size + 1) dx ⟨fun b o e => M.keep b o (fresh b o e) (k b o e), Nat.le_succ _, M.obj, Nat.le_trans (Nat.le_trans (Nat.le_succ _) (Nat.le_succ _)) z, M.dne, M.ns⟩⟩
theorem init2 {f1 f2 : Str} {v v' : Value} (T : XInit prog K C [f1, f2] qual sc body params) (Tx : Txt2 f1 f2 qual sc body params) {fI : Addr} (hfi : findIn K (.ref C) "__init__" = some (some (.ref fI))) {t0 : Addr} (X : K.In s.heap) (hlim : s.heap.NoLimit) (G : SupG prog mg mb s.heap) (hG : K.lookup mainGlobals = none ∨ mainGlobals ≠ x) (hgx : mainGlobals ≠ x) (hbx : builtinsNs ≠ x)
    (hx : s.heap.get? x = some (excO C t0)) (hnx : K.lookup x = none) (hroom : A.depth < recursionLimit)
    (hq : ∀ h' tk dx, Made s.heap h' x C dx (fun y => if y = f2 then some v' else if y = f1 then some v else none) → R (.ok (.ret .none)) { s with heap := h', toks := tk }) :
    codeAny (model prog w) A (.call (.ref fI) ⟨[.ref x, v, v'], []⟩) R s := by
  obtain ⟨fI', cda, cc, kV, doc, pm, ct, oc, an, od, osl, i1, i2, i3, i4, ⟨ccl, cdd, vs, ccs, file, tf, c1, c2, c3⟩, cl, cld, csl, c4⟩ := T.ini
  rw [hfi] at i1; cases i1
  obtain ⟨msg, j, a, b, c, d, e, g, qa, qb, qc, qd, ra, rb, rc, rd, rfl, ST, SW, SW'⟩ := Tx.ex
  obtain ⟨nm, q, N, bs, bm, sn, sub, ab, col, dd, k0, k1, k2, k3, k5, hC, hbm⟩ := T.c.cls
  obtain ⟨ar, har, hself⟩ := Tx.ar
  have hcl : clsIn K C = some { name := nm, bases := bs, mro := .ref C :: bm, ns := N, qualname := q, hasDict := true, slotNames := sn, subclasses := sub, abstract := ab, collection := col, hasDel := false } := by unfold clsIn; rw [hC] <;> rfl
  refine ks_codeAny_call_defAt (binds := [(("self" : Str), .ref x), (f1, v), (f2, v')]) hroom (X _ _ i3) rfl hlim (codeRec_of X i4) rfl (.of_eq (Tx.bi _ _ _ _ _ _ _ _ _ _)) Tx.cell (fun y hy => ?_) (fun h0 hn k => ?_) Tx.co Tx.gen ST.kind
  · rcases List.mem_cons.1 hy with rfl | hy
    · exact ST.kl
    · rcases List.mem_cons.1 hy with rfl | hy
      · exact Tx.loc1
      · rcases List.mem_cons.1 hy with rfl | hy
        · exact Tx.loc2
        · cases hy
  have hxL : x ≠ s.heap.objs.size := Nat.ne_of_lt (Heap.lt_size hx)
  have X0 : K.In h0 := X.keeps k
  have hx0 := k _ _ hx
  have q1 : (f1 == f2) = false := Tx.ne
  have m1 : ([(("self" : Str), Value.ref x), (f1, v), (f2, v')].reverse).lookup ("self" : Str) = some (.ref x) := by
    show List.lookup _ [(f2, v'), (f1, v), (("self" : Str), Value.ref x)] = _
    simp only [List.lookup, Tx.ns1, Tx.ns2]
    rfl
  have m2 : ([(("self" : Str), Value.ref x), (f1, v), (f2, v')].reverse).lookup f1 = some v := by
    show List.lookup _ [(f2, v'), (f1, v), (("self" : Str), Value.ref x)] = _
    simp only [List.lookup, q1, beq_self_eq_true]
  have m3 : ([(("self" : Str), Value.ref x), (f1, v), (f2, v')].reverse).lookup f2 = some v' := by
    show List.lookup _ [(f2, v'), (f1, v), (("self" : Str), Value.ref x)] = _
    simp only [List.lookup, beq_self_eq_true]
  show wpAt _ _ (.func _ (xEnv qual sc s.heap.objs.size fI cda cc)) (execs _ (xEnv qual sc s.heap.objs.size fI cda cc)) _ _ _
  refine ks_wpAt_execs_cons (super_run (C := C) (x := x) (s := { s with heap := h0, toks := _ }) X0 hC hx0 hnx T.c.mC T.c.mV T.c.sup T.c.opq ST (X0 _ _ i3) rfl har hself (X0 _ _ c1) rfl c2 c3 G.top ⟨_, X0 _ _ c4, rfl⟩ hn m1 (G.g.keeps k) G.gs (G.b.keeps k) G.bs fun h1 tk1 F1 => ?_)
  obtain ⟨t1, hx1⟩ := F1.obj
  have X1 : K.In h1 := kept_butX X0 hnx F1.keep
  have hn1 := ns_keep hn fun o z => F1.keep _ o hxL.symm z
  have hd : clsIn K C = _ := hcl
  refine ks_wpAt_execs_cons (wpAt_of_wpAny (store1 (s := { s with heap := h1, toks := tk1 }) X1 ST.kind Tx.loc1 ST.kl Tx.nd1 hn1 m2 m1 hx1 T.c.sa hcl (show refsVE (.ref C :: bm) = true from hbm) rfl (T.c.noF f1 (by simp)) (SW _ _ _ _) fun h2 tk2 dx M => ?_))
  have X2 : K.In h2 := kept_butX X1 hnx M.keep
  have hn2 := ns_keep hn1 fun o z => M.keep _ o hxL.symm z
  obtain ⟨t2, hx2⟩ := M.obj
  refine ks_wpAt_execs_cons (wpAt_of_wpAny (store2 (nl := [f1]) (s := { s with heap := h2, toks := tk2 }) X2 ST.kind Tx.loc2 ST.kl Tx.nd2 hn2 m3 m1 hx2 M.ns (fun y hy => ?_) (by show 1 ≤ 1000; decide) T.c.sa hcl (show refsVE (.ref C :: bm) = true from hbm) rfl (T.c.noF f2 (by simp)) (SW' _ _ _ _) fun h3 tk3 k3' ns3 => ?_))
  · by_cases hh : y = f1
    · exact hh ▸ List.mem_singleton.mpr rfl
    · simp only [if_neg hh] at hy
      exact absurd rfl hy
  refine wpAt_of_wpAny (wpAny_execs_nil ?_)
  have z : s.heap.objs.size ≤ h1.objs.size := Nat.le_of_lt (hn1.lt)
  have bd : ∀ b' o, s.heap.get? b' = some o → b' ≠ dx := fun b' o e' q => by
    have l := Heap.lt_size e'
    rw [q] at l
    exact absurd (Nat.lt_of_lt_of_le l (Nat.le_trans z M.big)) (Nat.lt_irrefl _)
  exact hq h3 tk3 dx ⟨fun b' o nb e' => k3' b' o (bd b' o e') (M.keep b' o nb (F1.keep b' o nb (k b' o e'))), ⟨t2, k3' _ _ M.dne.symm hx2⟩, Nat.le_trans z M.big, M.dne, ns3⟩
theorem made2 {f1 f2 : Str} {v v' : Value} (T : XInit prog K C [f1, f2] qual sc body params) (Tx : Txt2 f1 f2 qual sc body params) (X : K.In s.heap) (hlim : s.heap.NoLimit) (G : SupG prog mg mb s.heap) (hroom : A.depth + 1 < recursionLimit)
    (hq : ∀ h' tk e d, OwnX s.heap h' e C d (fun y => if y = f2 then some v' else if y = f1 then some v else none) → R (.ok (.ret (.ref e))) { s with heap := h', toks := tk }) :
    codeAny (model prog w) A (.call (.ref C) ⟨[v, v'], []⟩) R s := by
  obtain ⟨nm, q, N, bs, bm, sn, sub, ab, col, dd, k0, k1, k2, k3, k5, hC, hbm⟩ := T.c.cls
  obtain ⟨fI, _, _, _, _, _, _, _, _, _, _, i1, i2, _⟩ := T.ini
  obtain ⟨hp, g, dr, tk, os⟩ := s; have k : ∀ b o, hp.get? b = some o → ((hp.push (kdv_tup [v, v'])).push (excO C hp.objs.size)).get? b = some o := fun b o e => Heap.get?_push_of_some _ (Heap.get?_push_of_some _ e)
  have hget : ((hp.push (kdv_tup [v, v'])).push (excO C hp.objs.size)).get? (hp.objs.size + 1) = some (excO C hp.objs.size) := by heap_get
  have fresh : ∀ b o, hp.get? b = some o → b ≠ hp.objs.size + 1 := fun b o e z => by
    rw [z] at e
    exact absurd (Nat.lt_of_succ_lt (Heap.lt_size e)) (Nat.lt_irrefl _)
  have hnx : K.lookup (hp.objs.size + 1) = none := by
    cases e : K.lookup (hp.objs.size + 1) with
    | none => rfl
    | some o => exact absurd rfl (fresh _ o (X _ _ e))
  have gx : ∀ {L : Addr} {m : Str → Option Value}, hp.Ns L m → L ≠ hp.objs.size + 1 := fun ⟨o, _, _, e, _⟩ => fresh _ o e
  refine call_own PySem.F.excBase_ValueError (fun z => refsVE_contains z bm hbm) (X _ _ hC) (looks_findIn X i1) (fun self => bind_fn X self i2) (by show 2 ≤ sizeLine; decide) ?_
  refine init2 (s := ⟨(hp.push (kdv_tup [v, v'])).push (excO C hp.objs.size), g, dr, tk, os⟩) T Tx i1 (X.keeps k) (hlim.keeps k) ⟨G.top, G.g.keeps k, G.gs, G.b.keeps k, G.bs⟩ (.inr (gx G.g)) (gx G.g) (gx G.b) hget hnx (by show A.depth + 1 < recursionLimit; exact hroom) fun h' tk' dx M => ?_
  have z : hp.objs.size + 1 + 1 ≤ dx := by
    have q := M.big
    rw [Heap.size_push, Heap.size_push] at q
    exact q
  exact ⟨rfl, hq h' tk' (hp.objs.size + 1) dx ⟨fun b o e => M.keep b o (fresh b o e) (k b o e), Nat.le_succ _, M.obj, Nat.le_trans (Nat.le_trans (Nat.le_succ _) (Nat.le_succ _)) z, M.dne, M.ns⟩⟩
end
end XV
end PySem

/-! DLX3: raise, try, e.field, isinstance(e, C) over the data layer. -/
namespace PySem
namespace XV
open PySem.W PySem.Calls PyProof.Rows PySem.HandSPX
section
variable {prog : Program} {w : World} {A : Around} {E : Value → Shared → Prop} {s : Shared} {K : Frag} {x D : Addr} {ox : Obj} {odx : Option Obj}
theorem findObj_own_data {C : Addr} {name : Str} {a g : Value} (hc : (clsIn K C).isSome = true) (ha : findIn K (.ref C) name = some (some a)) (hg : specialIn K a "__get__" = some (some g)) (ht : takesIn K a = some true) : findObj K C odx name = some (.bind g a) := by
  obtain ⟨cd, hc⟩ := Option.isSome_iff_exists.mp hc; unfold findObj
  rw [hc, Option.bind_some, ha, Option.bind_some]; simp [hg, ht]
/-- e.__class__, e with a dict or without -/
theorem excCls {Q : Option Value → Shared → Prop} (F : L2.ExcC K D) (X : K.In s.heap) (I : InstAt s.heap x ox D odx) (h : Q (some (.ref D)) { s with toks := s.toks + 1 }) : wpAny (model prog w) A (getAttr? (.ref x) "__class__") Q E s := by
  have hf : findObj K D odx "__class__" = some (.bind (.builtin "getset_descriptor.__get__") (.builtin "object.__class__")) := findObj_own_data (by obtain ⟨cd, hc, _⟩ := any_some F.hd; rw [hc]; rfl) F.ha F.hn F.ht
  obtain ⟨hp, g, d, t, os⟩ := s
  have L0 := I.type (M := model prog w); have L1 := looks_findIn (M := model prog w) X F.hg
  have L2 := looks_findIn (M := model prog w) X F.hk
  have L3 := looks_find (M := model prog w) X I hf; have isB : Looks (model prog w) hp (isInstance (.ref x) (.type "BaseException")) true := L0.andThen (looks_subIn X F.hs)
  have q0 : (false && onTheHeap (Value.builtin "BaseException.__getattribute__")) = false := rfl
  have q2 : (Value.builtin "BaseException.__getattribute__" == Value.builtin "object.__getattribute__") = false := by decide +kernel
  have q1 : (onTheHeap (Value.ref D) && Value.builtin "BaseException.__getattribute__" == Value.builtin "object.__getattribute__") = false := by rw [q2]; rfl
  unfold getAttr? getAttrBy? getAttrBy; refine wpAny_bind (wpAny_mkText (wpAny_bind (wpAny_attempt (wpAny_holding (wpAny_bind (L0.at (wpAny_bind (L1.at ?_))))))))
  refine KFB.if_not (by exact q1) ?_
  unfold getAttrByItsOwn hookBefore; refine wpAny_bind ?_
  rw [if_pos (show onTheHeap (Value.ref D) = true from rfl)]; refine L2.at (wpAny_bind (wpAny_attempt (wpAny_holding ?_)))
  unfold callGetattribute
  rw [q0, if_neg Bool.false_ne_true]
  unfold boundAndCalled
  rw [PySem.F.excAttr_ValueError.ga.bind (.ref x)]; refine wpAny_bind (wpAny_pure ?_)
  show wpAny _ _ (call (.builtin "BaseException.__getattribute__") [.ref x, .str "__class__" t]) _ _ _; refine wpAny_call (codeAny_call_builtin PySem.F.excAttr_ValueError.ga.plain PySem.F.entry_bexc_ga ?_)
  refine @check_slot (model prog w) _ _ ⟨hp, g, d, t + 1, os⟩ "BaseException.__getattribute__" "BaseException" "__getattribute__" (.ref x) [.str "__class__" t] [] _ (by decide +kernel) (by decide +kernel) isB (PySem.F.args_bexc_ga (.ref x) (.str "__class__" t)) ?_
  unfold Builtin.«object.__getattribute__»; refine wpAny_bind (wpAny_of_eq (a := ((Value.ref x : Value), [Value.str "__class__" t])) (by first | rfl | (simp only [slotArgs]; rfl)) ?_)
  refine wpAny_bind (wpAny_pure (wpAny_bind (L0.at (wpAny_bind (L3.at ?_))))); refine wpAny_bind (wpAny_holding (wpAny_call (class_get (s := ⟨hp, g, d, t + 1, os⟩) (ox := ox) (od := odx) X I F.hm ?_)))
  refine wpAny_pure ?_
  show wpAny _ _ (handedOut (.ref D)) _ _ _; rw [handedOut_of (v := .ref D) rfl]
  first
    | refine wpAny_pure (wpAny_pure h)
    | exact wpAny_pure h
    | refine wpAny_pure (wpAny_bind (wpAny_pure (wpAny_pure h)))
theorem excKit (F : L2.ExcC K D) : KitX K (.ref x) (.ref D) (fun h => ∃ odx, InstAt h x ox D odx) where
  ty := fun _ _ _ ⟨_, I⟩ => I.type
  it := fun _ _ X _ => by
    obtain ⟨cdD, hcD, _⟩ := any_some F.hd
    unfold clsIn at hcD
    split at hcD
    · rename_i c' d' cd' sl' ho
      intro A' Q' E' s' k q
      unfold isType loadHead; exact wpAny_bind (wpAny_loadPart (k _ _ (X _ _ ho)) (wpAny_pure q))
    · cases hcD
  ne := fun h tp dd its n sl XI htp => by
    obtain ⟨cdD, hcD, _⟩ := any_some F.hd
    refine Bool.eq_false_iff.mpr fun q => ?_; have e : D = tp := Value.ref.inj (beq_iff_eq.mp q)
    subst e
    unfold clsIn at hcD
    split at hcD
    · rename_i c' d' cd' sl' ho
      have z := (XI _ _ ho).symm.trans htp; cases z
    · cases hcD
  ca := fun X ⟨_, I⟩ k => excCls F X I k
end
end XV
end PySem
namespace DL
open PySem PySem.Spec PyProof.Rows L2
/-! ### facts of the classes -/
/-- an own class, called with as many things as it has fields, makes an exception that holds them -/
structure Makes (P : Program) (K : PySem.W.Frag) (mg : Str → Option Value) (C : Addr) (ns : List Str) : Prop where
  run : ∀ {w : World} {A : Around} {R : Result → Shared → Prop} {s : Shared} {us : List Value} {mb : Str → Option Value}, K.In s.heap → s.heap.NoLimit → PySem.XV.SupG P mg mb s.heap → A.depth + 1 < recursionLimit → us.length = ns.length →
    (∀ h' tk e d, PySem.XV.OwnX s.heap h' e C d (fun y => (ns.zip us).lookup y) → R (.ok (.ret (.ref e))) { s with heap := h', toks := tk }) → codeAny (model P w) A (.call (.ref C) ⟨us, []⟩) R s
  (exC : PySem.W.subIn K (.ref C) (.type "BaseException") = some true)
  (tyC : PySem.W.typeIn K (.ref C) = some (.type "type"))
  (kC : PySem.W.keepIn K (.ref C) = true)
theorem makes1 {P : Program} {K : PySem.W.Frag} {mg : Str → Option Value} {C : Addr} {f qual : Str} {sc : Scope} {body : List Stmt} {params : Arguments} (T : PySem.XV.XInit P K C [f] qual sc body params) (Tx : PySem.XV.Txt1 f qual sc body params) : Makes P K mg C [f] :=
  ⟨fun {w A R s us mb} X hl G hr hu hq => match us, hu with
    | [v], _ => PySem.XV.made1 T Tx X hl G hr fun h' tk e d O => hq h' tk e d (by
      have e : (fun y => (([f] : List Str).zip [v]).lookup y) = fun y => if y = f then some v else none := by
        funext y
        by_cases h : y = f
        · subst h; simp [List.lookup]
        · have : (y == f) = false := by simpa using h
          simp [List.lookup, this, h]
      rw [e]; exact O), T.c.exC, T.c.tyC, T.c.kC⟩
theorem makes2 {P : Program} {K : PySem.W.Frag} {mg : Str → Option Value} {C : Addr} {f1 f2 qual : Str} {sc : Scope} {body : List Stmt} {params : Arguments} (T : PySem.XV.XInit P K C [f1, f2] qual sc body params) (Tx : PySem.XV.Txt2 f1 f2 qual sc body params) : Makes P K mg C [f1, f2] :=
  ⟨fun {w A R s us mb} X hl G hr hu hq => match us, hu with
    | [v, v'], _ => PySem.XV.made2 T Tx X hl G hr fun h' tk e d O => hq h' tk e d (by
      have hne : ¬ f2 = f1 := fun q => by
        have := Tx.ne
        rw [q] at this
        simp at this
      have e : (fun y => (([f1, f2] : List Str).zip [v, v']).lookup y) = fun y => if y = f2 then some v' else if y = f1 then some v else none := by
        funext y
        by_cases h : y = f2
        · subst h
          have : (y == f1) = false := by simpa using hne
          simp [List.lookup, this]
        · have h2 : (y == f2) = false := by simpa using h
          by_cases h1 : y = f1
          · subst h1; simp [List.lookup, h]
          · have : (y == f1) = false := by simpa using h1
            simp [List.lookup, this, h1, h2, h]
      rw [e]; exact O), T.c.exC, T.c.tyC, T.c.kC⟩
/-- what the module says of super -/
structure SupP (P : Program) (mg : Str → Option Value) : Prop where
  top : (P.main.scope.names.lookup ("super" : Str)).isSome = false
  gs : mg "super" = none
theorem lookup_vals : ∀ {ns : List Str} {vs : List V} {us : List Value}, Vals vs us → ∀ f, RelO ((ns.zip vs).lookup f) ((ns.zip us).lookup f)
  | [], _, _, _, f => trivial
  | _ :: _, _, _, .nil, f => trivial
  | n :: ns, v :: vs, u :: us, .cons r t, f => by
    simp only [List.zip_cons_cons, List.lookup]
    cases h : (f == n) with
    | true => exact r
    | false => exact lookup_vals t f
/-- C(..) -/
def tMk (C : Addr) (ns : List Str) (ta : TA) : L2.St → Hp → XK → Prop := fun σ H Q => ta σ H fun vs H1 => vs.length = ns.length ∧ ∀ d, H1 d = none → Q (.ref C) (some d) (upd H1 d (.xd (ns.zip vs)))
section
variable {X : Cx} {C : Addr} {ns : List Str}
theorem Vals.len : ∀ {vs : List V} {us : List Value}, Vals vs us → us.length = vs.length
  | [], [], .nil => rfl
  | _ :: _, _ :: _, .cons _ t => by simp [Vals.len t]
theorem pmk_own {c : Str} {a : Expr} {es : List Expr} {ta : TA} {p pos : Pos} {k : Nat} (T : Makes X.prog X.K X.mg C ns) (gC : X.mg c = some (.ref C)) (sp : SupP X.prog X.mg) (hr : Room k X.A) (ha : PA X (a :: es) ta) (hg : Gl X c := by rfl) (hdb : (c == ("__debug__" : Str)) = false := by decide)
    (he : starEach (a :: es) X.env = (false, eval a X.env) :: starEach es X.env := by rfl) (hpl : (backTo pos (starEach es X.env)).any (·.1) = false := by rfl) :
    PMk X (.Call (.Name c p) (a :: es) [] pos) (tMk C ns ta) := by
  intro pins s σ H Q I h
  refine wpAny_Call_Name_kw (ld_glob I hg gC ?_ hdb); refine PySem.W.callWith_K (h₀ := X.base) I.ok.mod.kin T.kC (thn (ha.run pos pins s σ H _ I h) fun us s1 hh => ?_) he hpl
  obtain ⟨vs, H1, I1, r1, lv, q1⟩ := hh
  refine ⟨I1.kIn, ?_⟩
  have hlim := I1.nolimit
  obtain ⟨mb, b1, b2⟩ := I1.mod.blt
  have G : PySem.XV.SupG X.prog X.mg mb s1.heap := ⟨sp.top, I1.mod.glob.keeps I1.bk, sp.gs, b1.keeps I1.bk, (b2 "super" (by decide)).trans (by decide +kernel)⟩
  obtain ⟨hp, g, dr, tk, os⟩ := s1; refine wpAny_call (T.run I1.kIn hlim G (by have := hr.dp; omega) ((Vals.len r1).trans lv) fun h' tk' e d M => ?_)
  show MkP X pins σ Q (.ref e) ⟨h', g, dr, tk', os⟩
  obtain ⟨t, hoe⟩ := M.obj
  have hns := M.ns
  obtain ⟨G', g1, g2⟩ := restrict h' fun b => decide (b ≠ e)
  have gk : ∀ b, b ≠ e → G'.get? b = h'.get? b := fun b hb => g1 b (decide_eq_true hb)
  have ge : G'.get? e = none := g2 e (by simp)
  have old : ∀ b o, hp.get? b = some o → G'.get? b = some o := fun b o q => (gk b (Nat.ne_of_lt (Nat.lt_of_lt_of_le (Heap.lt_size q) M.new))).trans (M.keep b o q)
  have ob : ObjOk X.prog X.w (upd H1 d (.xd (ns.zip vs))) G' d (.xd (ns.zip vs)) :=
    ⟨_, hns.at (fun o q => (gk d M.dne).trans q), lookup_vals r1⟩
  have J : Inv X pins σ (upd H1 d (.xd (ns.zip vs))) ⟨G', g, dr, tk', os⟩ := I1.laid (t' := tk') old M.dbig ob
  refine ⟨e, _, _, ⟨G', g, dr, tk', os⟩, _, .ref C, some d, rfl, J, fun b o q => ?_, ge, hoe, ⟨rfl, rfl⟩, rfl, rfl, ?_, rfl, I1.bare, raises_own T.exC T.tyC, q1 d (I1.hok.fresh M.dbig)⟩
  · by_cases hb : b = e
    · have q' : G'.get? b = some o := q
      rw [hb, ge] at q'; cases q'
    · exact (gk b hb).symm.trans q
  · rw [upd_ne (Ne.symm M.dne)]
    exact I1.hok.fresh M.new
end
/-! ### raise -/
def sRaise (c : Str) (ns : List Str) (fs : AF) : SF := fun ρ s => (fs ρ s).thenS ρ fun ds s1 => if ds.length = ns.length then .ex ⟨c, ns.zip ds⟩ ρ s1 else .no
theorem map_fst_zip {α β : Type} : ∀ {ns : List α} {xs : List β}, xs.length = ns.length → (ns.zip xs).map (·.1) = ns
  | [], [], _ => rfl
  | _ :: _, _ :: _, h => by simp [map_fst_zip (by simpa using h)]
theorem map_snd_zip {α β : Type} : ∀ {ns : List α} {xs : List β}, xs.length = ns.length → (ns.zip xs).map (·.2) = xs
  | [], [], _ => rfl
  | _ :: _, _ :: _, h => by simp [map_snd_zip (by simpa using h)]
section
variable {X : Cx} {Z : SC} {xc : Option Xc} {W : WX} {C : Addr} {ns : List Str}
theorem d_raise {c : Str} {a : Expr} {es : List Expr} {fs : AF} {p pos pos2 : Pos} {k : Nat} (hz : Z.cls c = some C) (T : Makes X.prog Z.K X.mg C ns) (gC : X.mg c = some (.ref C)) (sp : SupP X.prog X.mg) (hr : Room k X.A) (tk : Takes X W) (ha : PA X (a :: es) (dA Z xc W fs)) (hc : X.calm = true := by rfl) (hK : X.K = Z.K := by rfl) (hg : Gl X c := by rfl) (hdb : (c == ("__debug__" : Str)) = false := by decide)
    (he : starEach (a :: es) X.env = (false, eval a X.env) :: starEach es X.env := by rfl) (hpl : (backTo pos (starEach es X.env)).any (·.1) = false := by rfl) :
    PS X (.Raise (some (.Call (.Name c p) (a :: es) [] pos)) none pos2) (dS Z xc W (sRaise c ns fs)) := by
  rw [← hK] at T
  refine PS_imp (ps_raise hc tk (pmk_own T gC sp hr ha hg hdb he hpl)) fun Dn σ H ⟨ads, ρ, s, t, h⟩ => ?_
  refine ⟨ads, ρ, s, t, bAS t h fun ds s1 vs H1 ads1 x1 g1 r1 q1 => ?_⟩
  by_cases hl : ds.length = ns.length
  · rw [if_pos hl] at q1
    have lv : vs.length = ns.length := r1.length.trans hl
    refine ⟨lv, fun d hd => ?_⟩
    have x2 : Xt Z.K H1 ads1 (upd H1 d (.xd (ns.zip vs))) ads1 := Xt.upd (soft_none hd)
    refine q1 _ _ σ _ ads1 x2 (g1.new hd) ⟨C, hz, rfl, d, ns.zip vs, rfl, upd_same, ?_, ?_⟩ ((t.r.mono x1).mono x2)
    · rw [map_fst_zip lv, map_fst_zip hl]
    · rw [map_snd_zip lv, map_snd_zip hl]
      exact r1.mono x2
  · rw [if_neg hl] at q1
    exact q1.elim
end
/-! ### try .. except C as e -/
def noX : En → En := List.map fun l => match l with | .exn _ => .un | l => l
def endX (i : Nat) : RS → RS
  | .nx ρ s => .nx (noX (ρ.set i .un)) s
  | .bk ρ s => .bk (noX (ρ.set i .un)) s
  | .ct ρ s => .ct (noX (ρ.set i .un)) s
  | .rt d s => .rt d s
  | .ex _ _ _ => .no
  | .no => .no
def sTry (i : Nat) (is : Str → Bool) (F G : SF) : SF := fun ρ s => match F ρ s with
  | .ex e ρ1 s1 => if is e.cls then endX i (G (ρ1.set i (.exn e)) s1) else .ex e ρ1 s1
  | r => r
section
variable {K : PySem.W.Frag} {H : Hp} {ads : List Addr} {xc : Option Xc} {σ : L2.St} {ρ : En}
theorem RpEn.noX (h : RpEn K H ads xc σ ρ) : RpEn K H ads none σ (noX ρ) := by
  refine ⟨by simp [DL.noX, h.1], fun i o l ho hl => ?_⟩
  unfold DL.noX at hl
  rw [List.getElem?_map] at hl
  cases q : ρ[i]? with
  | none => rw [q] at hl; cases hl
  | some l0 =>
    rw [q] at hl
    have k := h.2 i o l0 ho q
    cases l0 with
    | un => cases hl; trivial
    | exn e => cases hl; trivial
    | d x =>
      cases hl
      cases o with
      | none => exact k.elim
      | some v => exact k
theorem RpEn.toX {k : Option Xc} (h : RpEn K H ads none σ ρ) : RpEn K H ads k σ ρ := by
  refine ⟨h.1, fun i o l ho hl => ?_⟩
  have q := h.2 i o l ho hl
  cases l with
  | un => trivial
  | exn e => cases o with
    | none => exact q.elim
    | some v => obtain ⟨k, e, _⟩ := q; cases e
  | d x => cases o with
    | none => exact q.elim
    | some v => exact q
end
/-- which classes an except clause takes -/
def Catch (Z : SC) (cv : Value) (is : Str → Bool) : Prop := ∀ c C, Z.cls c = some C → PySem.W.exmOne Z.K (.ref C) cv = some (is c)
section
variable {X : Cx} {Z : SC} {W : WX}
theorem takes_false {X : Cx} : Takes X (fun _ _ _ _ => False) := fun _ _ ⟨_, _, _, _, _, _, _, _, _, _, _, _, _, _, _, _, h⟩ => h.elim
theorem d_try (i : Nat) {x n : Str} {cv : Value} {is : Str → Bool} {body suite : List Stmt} {b₀ : Stmt} {np pos pos' : Pos} {F G : SF} (hs : X.stack = X.env :: X.outer) (hf : X.env.frame = some X.env.locals) (hN : X.N.Nodup) (hc : Names X x cv) (ct : Catch Z cv is) (tk : Takes X W)
    (hb : ∀ (W' : WX) (pn : List (Addr × Obj)) (xe : Value → Shared → Prop), Takes (X.tr pn xe) W' → PassesOwn (model X.prog X.w) X.A X.env xe → PSs (X.tr pn xe) body (dS Z none W' F))
    (hsu : ∀ (a : Addr) (oe : Obj) (cls : Value) (d : Option Addr) (pn : List (Addr × Obj)) (e : Exn), Zc cls d oe → (∃ vs, oe.data = .fields vs) → PSs (X.suite a ((a, oe) :: pn)) (b₀ :: suite) (dS Z (some ⟨a, cls, d, e⟩) (fun _ _ _ _ => False) G))
    (hK : X.K = Z.K := by rfl) (hi : X.N[i]? = some n := by rfl) (hln : X.env.kindOf n = some .local := by rfl) :
    PS X (.Try body [.ExceptHandler (some (.Name x np)) (some n) (b₀ :: suite) pos'] [] [] pos) (dS Z none W (sTry i is F G)) := by
  refine PS_imp (ps_try_as (tb := fun W' => dS Z none W' F) (ts := fun a cls d Dn σ H => ∃ e, dS Z (some ⟨a, cls, d, e⟩) (fun _ _ _ _ => False) G Dn σ H) hs hf hN hi hln hc tk hb (fun a oe cls d pn hz hv => ⟨fun pins s σ H Dn I ⟨e, q⟩ => (hsu a oe cls d pn e hz hv).run pins s σ H Dn I q⟩)) fun Dn σ H ⟨ads, ρ, s, t, h⟩ => ?_
  refine ⟨ads, ρ, s, t, ?_⟩
  unfold sTry at h
  cases q : F ρ s with
  | nx ρ1 s1 => rw [q] at h; exact h
  | rt d s1 => rw [q] at h; exact h
  | bk ρ1 s1 => rw [q] at h; exact h
  | ct ρ1 s1 => rw [q] at h; exact h
  | no => rw [q] at h; exact h
  | ex e ρ1 s1 =>
    rw [q] at h
    dsimp only at h
    intro c d σ' H1 ads1 x1 g1 xr r1
    obtain ⟨C, hC, rfl, rest⟩ := id xr
    refine ⟨is e.cls, by rw [hK]; exact ct _ _ hC, fun hb a na => ?_, fun hb => ?_⟩
    · rw [hb, if_pos rfl] at h
      refine ⟨e, ads1, ρ1.set i (.exn e), s1, ⟨g1, xr, ?_⟩, ?_⟩
      · exact (RpEn.toX r1).set (o := some (.ref a)) (l := .exn e) ⟨_, rfl, rfl, rfl⟩
      · generalize G (ρ1.set i (.exn e)) s1 = z at h
        cases z with
        | nx ρ2 s2 => exact fun σ2 H2 ads2 x2 g2 r2 => h (σ2.set i none) H2 ads2 (x1.trans x2) g2 (RpEn.noX (r2.set (o := none) (l := .un) trivial))
        | bk ρ2 s2 => exact fun σ2 H2 ads2 x2 g2 r2 => h (σ2.set i none) H2 ads2 (x1.trans x2) g2 (RpEn.noX (r2.set (o := none) (l := .un) trivial))
        | ct ρ2 s2 => exact fun σ2 H2 ads2 x2 g2 r2 => h (σ2.set i none) H2 ads2 (x1.trans x2) g2 (RpEn.noX (r2.set (o := none) (l := .un) trivial))
        | rt d2 s2 => exact fun v H2 ads2 x2 g2 r2 => h v H2 ads2 (x1.trans x2) g2 r2
        | ex _ _ _ => exact h.elim
        | no => exact h.elim
    · rw [hb, if_neg Bool.false_ne_true] at h
      exact h _ _ σ' H1 ads1 x1 g1 xr r1
end
/-! ### e.field, isinstance(e, C) -/
/-- e's field -/
def eFld (i : Nat) (f : Str) : EF := fun ρ s => match ρ[i]? with
  | some (.exn e) => (match e.fs.lookup f with
    | some d => .ok d s
    | none => .no)
  | _ => .no
/-- e is a C -/
def eIsX (i : Nat) (is : Str → Bool) : EF := fun ρ s => match ρ[i]? with
  | some (.exn e) => .ok (.bl (is e.cls)) s
  | _ => .no
/-- facts of every class that is named -/
structure XTab (Z : SC) (fns : List Str) : Prop where
  xf : ∀ c C, Z.cls c = some C → XfC Z.K C
  xc : ∀ c C, Z.cls c = some C → ExcC Z.K C
  no : ∀ c C, Z.cls c = some C → ∀ f ∈ fns, PySem.W.findIn Z.K (.ref C) f = some none
def IsX (Z : SC) (cv : Value) (is : Str → Bool) : Prop := ∀ c C, Z.cls c = some C → PySem.W.kitOne Z.K (.ref C) cv = some (is c)
theorem lookup_rpf {K : PySem.W.Frag} {H : Hp} {ads : List Addr} {f : Str} {d : D} : ∀ {fs : List (Str × V)} {gs : List (Str × D)}, Rpf K H ads fs gs → gs.lookup f = some d → ∃ v, fs.lookup f = some v ∧ Rp K H ads v d
  | [], [], _, h => by (simp at h)
  | [], _ :: _, r, _ => by have := r.1; simp at this
  | _ :: _, [], r, _ => by have := r.1; simp at this
  | (n, v) :: fs, (m, e) :: gs, r, h => by
    obtain ⟨r1, r2⟩ := r
    simp only [List.map_cons, List.cons.injEq] at r1
    obtain ⟨rfl, r1⟩ := r1
    simp only [List.map_cons] at r2
    cases r2 with
    | cons ra rb =>
      simp only [List.lookup] at h ⊢
      cases q : (f == n) with
      | true => rw [q] at h; cases h; exact ⟨v, rfl, ra⟩
      | false => rw [q] at h; exact lookup_rpf ⟨r1, rb⟩ h
section
variable {X : Cx} {Z : SC} {W : WX} {fns : List Str} {a : Addr} {oe : Obj} {cls : Value} {d : Option Addr} {e : Exn} {pn : List (Addr × Obj)}
theorem PE_no {X : Cx} {ex : Expr} {t : TE} (h : ∀ σ H Q, ¬ t σ H Q) : PE X ex t := ⟨fun pins s σ H Q I q => (h σ H Q q).elim⟩
theorem slot_exn {k : Xc} {σ : L2.St} {H : Hp} {ads : List Addr} {ρ : En} {i : Nat} {e' : Exn} (r : RpEn Z.K H ads (some k) σ ρ) (q : ρ[i]? = some (.exn e')) : e' = k.e ∧ σ[i]? = some (some (.ref k.a)) := by
  have hi := (List.getElem?_eq_some_iff.mp q).1
  rw [← r.1] at hi
  have h := r.2 i σ[i] _ (by simp [hi]) q
  cases z : σ[i] with
  | none => rw [z] at h; exact h.elim
  | some v =>
    rw [z] at h
    obtain ⟨k', h1, h2, h3⟩ := h
    cases h1
    exact ⟨h3.symm, by simp [hi, z, h2]⟩
theorem d_fld (i : Nat) {x f : Str} {p pos : Pos} (T : XTab Z fns) (hf : f ∈ fns) (hz : Zc cls d oe) (hv : ∃ vs, oe.data = .fields vs) (hK : X.K = Z.K := by rfl) (hN : X.N[i]? = some x := by rfl) (hvi : Vis X.env.scope x := by first | exact Or.inl rfl | exact Or.inr (Or.inl rfl) | exact Or.inr (Or.inr rfl)) (hd : (x == ("__debug__" : Str)) = false := by decide)
    (hcd : (x == ("__classdict__" : Str)) = false := by decide) (hb : attributeBase (.Name x p) f X.env (eval (.Name x p) X.env) = eval (.Name x p) X.env := by rfl) : PE (X.suite a ((a, oe) :: pn)) (.Attribute (.Name x p) f pos) (dE Z (some ⟨a, cls, d, e⟩) W (eFld i f)) := by
  cases hC : Z.cls e.cls with
  | none =>
    refine PE_no fun σ H Q ⟨ads, ρ, s, t, q⟩ => ?_
    obtain ⟨C, h1, _⟩ := t.x
    rw [hC] at h1; cases h1
  | some C =>
    have F1 := T.xf _ _ hC
    have F2 := T.no _ _ hC f hf
    rw [← hK] at F1 F2
    refine PE_imp (pe_xf (C := C) (te := tVar i) F1 F2 hz hv (pe_var (i := i) hN hvi hd hcd) hb) fun σ H Q ⟨ads, ρ, s, t, q⟩ => ?_
    unfold eFld at q
    cases q0 : ρ[i]? with
    | none => rw [q0] at q; exact q.elim
    | some l =>
      rw [q0] at q
      cases l with
      | un => exact q.elim
      | d _ => exact q.elim
      | exn e' =>
        obtain ⟨rfl, h2⟩ := slot_exn t.r q0
        dsimp only at q
        obtain ⟨C', h1, h3, dd, fs, h4, h5, h6⟩ := t.x
        rw [hC] at h1; cases h1
        cases q1 : e'.fs.lookup f with
        | none => rw [q1] at q; exact q.elim
        | some y =>
          rw [q1] at q
          obtain ⟨v, hl, rv⟩ := lookup_rpf h6 q1
          exact ⟨_, h2, rfl, h3, dd, fs, v, h4, h5, hl, q.ok t.g rv⟩
/-- what is asked: isinstance(e, c), e the exception that the suite holds -/
theorem call_isX {D : Addr} (C : ExcC X.K D) (hz : Zc (.ref D) d oe) (hv : ∃ vs, oe.data = .fields vs) : CallR (X.suite a ((a, oe) :: pn)) (.builtin "isinstance") (fun xs H Q => (∃ dd fs, d = some dd ∧ H dd = some (.xd fs)) ∧ rIsE X.K D a xs H Q) := by
  intro pins s σ H xs us Q I r ⟨⟨dd, fs, e1, hxd⟩, h⟩
  obtain ⟨c, cv, b, rfl, hcv, e, q⟩ := h; cases r with
  | cons rx rr =>
    cases rr with
    | cons rt rr =>
      cases rr
      cases rx
      have ec := hcv _ rt
      subst ec
      obtain ⟨hget, _⟩ := I.pin (a, oe) (List.mem_append.mpr (.inl List.mem_cons_self)); obtain ⟨vs, hv⟩ := hv
      obtain ⟨mA, hns, _⟩ : ObjOk X.prog X.w H s.heap dd (.xd fs) := I.hok dd _ hxd
      obtain ⟨od, ho, hl⟩ := lookIn_ns hns; have J : PySem.W.InstAt s.heap a oe D (some od) := ⟨hget, hz.1, by unfold PySem.W.notCls; rw [hv] <;> rfl, by rw [hz.2, e1]; exact ho⟩
      exact PySem.W.kia_one (PySem.XV.excKit C) I.kIn ⟨_, J⟩ e (fun z => nomatch z) fun tk => ⟨.bl b, H, I.kept (t' := tk) fun _ _ z => z, rfl, q⟩
/-- what a class's name stands for -/
def RefC (X : Cx) (c : V) (cv : Value) (y : Str) (p : Pos) : Prop := PE X (.Name y p) (tC c) ∧ ∀ u, RelV c u → u = cv
theorem d_isX (i : Nat) {x y : Str} {p p1 p2 pos : Pos} {c : V} {cv : Value} {is : Str → Bool} (T : XTab Z fns) (hz : Zc cls d oe) (hv : ∃ vs, oe.data = .fields vs) (hm : X.mg "isinstance" = none) (hc : RefC (X.suite a ((a, oe) :: pn)) c cv y p2) (hk : IsX Z cv is) (hK : X.K = Z.K := by rfl) (hN : X.N[i]? = some x := by rfl) (hvi : Vis X.env.scope x := by first | exact Or.inl rfl | exact Or.inr (Or.inl rfl) | exact Or.inr (Or.inr rfl)) (hd : (x == ("__debug__" : Str)) = false := by decide)
    (hcd : (x == ("__classdict__" : Str)) = false := by decide) (hg : Gl X "isinstance" := by rfl) (hst : starEach (.Name x p1 :: [.Name y p2]) X.env = (false, eval (.Name x p1) X.env) :: starEach [.Name y p2] X.env := by rfl) (hst2 : starEach [.Name y p2] X.env = (false, eval (.Name y p2) X.env) :: starEach [] X.env := by rfl)
    (hpl : (backTo pos (starEach [.Name y p2] X.env)).any (·.1) = false := by rfl) : PE (X.suite a ((a, oe) :: pn)) (.Call (.Name "isinstance" p) (.Name x p1 :: [.Name y p2]) [] pos) (dE Z (some ⟨a, cls, d, e⟩) W (eIsX i is)) := by
  cases hC : Z.cls e.cls with
  | none =>
    refine PE_no fun σ H Q ⟨ads, ρ, s, t, q⟩ => ?_
    obtain ⟨C, h1, _⟩ := t.x
    rw [hC] at h1; cases h1
  | some C =>
    by_cases hcl : cls = .ref C
    · subst hcl
      have F1 := T.xc _ _ hC
      have F2 := hk _ _ hC
      rw [← hK] at F1 F2
      refine PE_imp (pe_callB (call_isX F1 hz hv) hg hm (by decide +kernel) (pa_cons (pe_var (i := i) hN hvi hd hcd) (pa_cons hc.1 pa_nil hst2) hst) (by decide) (by decide) hst hpl) fun σ H Q ⟨ads, ρ, s, t, q⟩ => ?_
      unfold eIsX at q
      cases q0 : ρ[i]? with
      | none => rw [q0] at q; exact q.elim
      | some l =>
        rw [q0] at q
        cases l with
        | un => exact q.elim
        | d _ => exact q.elim
        | exn e' =>
          obtain ⟨rfl, h2⟩ := slot_exn t.r q0
          dsimp only at q
          obtain ⟨C', h1, h3, dd, fs, h4, h5, h6⟩ := t.x
          exact ⟨_, h2, ⟨dd, fs, h4, h5⟩, c, cv, is e'.cls, rfl, hc.2, F2, q.ok t.g (.bl _)⟩
    · refine PE_no fun σ H Q ⟨ads, ρ, s, t, q⟩ => ?_
      · obtain ⟨C', h1, h3, _⟩ := t.x
        rw [hC] at h1; cases h1
        exact hcl h3
end
end DL

/-! DLX4: list(reversed(x)), x a list. -/
namespace PySem
namespace RT
open PyProof.Rows
section
variable {prog : Program} {w : World} {s : Shared} {A : Around} {E : Value → Shared → Prop}
theorem list_rev_code {it l : Addr} {items : Array Value} {Q : Value → Shared → Prop} (hh : A.handled = none) (hit : s.heap.IsRevIter it l ((items.size : Int) - 1)) (hl : s.heap.IsList l items) (hne : l ≠ it) (hn : items.size ≤ sizeLine)
    (hQ : ∀ (h' : Heap) (tk : Nat) (acc : Array Value) (c' : Nat), (∀ b o, b ≠ it → s.heap.get? b = some o → h'.get? b = some o) → h'.get? s.heap.objs.size = some { cls := .type "list", dict := none, data := .seq acc c', slots := #[] } → ItemsOf (fun i v => items[items.size - 1 - i]? = some v) acc items.size →
      Q (.ref s.heap.objs.size) { s with heap := h', toks := tk }) : wpAny (model prog w) A (call (.type "list") [.ref it]) Q E s := by
  obtain ⟨oi, hoi, _⟩ := id hit
  obtain ⟨ol, hol, _⟩ := id hl
  have n1 : s.heap.objs.size ≠ it := Nat.ne_of_gt (Heap.lt_size hoi)
  have n2 : s.heap.objs.size ≠ l := Nat.ne_of_gt (Heap.lt_size hol)
  refine callType_codes (Q₁ := fun obj s₁ => obj = .ref s.heap.objs.size ∧ s₁ = { s with heap := s.heap.push { cls := .type "list", data := .seq #[] } }) F.called_list (F.typeCall_list_1 _) F.entry_list_init (code_list_new _ ⟨rfl, rfl⟩) fun obj s₁ h₁ => ?_
  obtain ⟨rfl, rfl⟩ := h₁
  obtain ⟨S, hSe⟩ : ∃ S, S = s.heap.objs.size := ⟨_, rfl⟩
  rw [← hSe] at n1 n2 hQ ⊢
  have hS : (s.heap.push { cls := .type "list", data := .seq #[] }).get? S = some { cls := .type "list", data := .seq #[] } := by rw [hSe]; exact Heap.get?_push_size _ rfl
  refine ⟨⟨_, hS, rfl⟩, F.args_list_init_2 _ _, ?_⟩; show wpAny _ _ (do let old ← Builtin.List.listItems (.ref S); Builtin.List.listUpdate (.ref S) (fun _ => #[]); letGo old.toList.reverse; Builtin.List.listExtendWith (.ref S) (.ref it) .none) _ _ _
  refine wpAny_bind ?_
  unfold Builtin.List.listItems
  refine wpAny_bind (wpAny_seqItems hS rfl (wpAny_pure ?_)); show wpAny _ _ (updateSeq S (fun _ => #[]) >>= fun _ => letGo (#[] : Array Value).toList.reverse >>= fun _ => Builtin.List.listExtendWith (.ref S) (.ref it) .none) _ _ _
  refine wpAny_bind (wpAny_updateSeq hS rfl ?_); have hS₂ := Heap.get?_update_self (Obj.mapSeq (fun _ => (#[] : Array Value))) hS rfl
  generalize e2 : ((s.heap.push { cls := .type "list", data := .seq #[] }).update S (Obj.mapSeq (fun _ => (#[] : Array Value)))) = h2 at hS₂ ⊢
  have oth : ∀ b o, b ≠ S → s.heap.get? b = some o → h2.get? b = some o := fun b o hb e => by
    rw [← e2]
    exact (Heap.get?_update_other _ _ (Ne.symm hb)).trans (Heap.get?_push_of_some _ e)
  have hit2 : h2.IsRevIter it l ((items.size : Int) - 1) := hit.at fun o e => oth _ _ (Ne.symm n1) e
  have hl2 : h2.IsList l items := by
    obtain ⟨o, a1, a2⟩ := hl
    exact ⟨o, oth _ _ (Ne.symm n2) a1, a2⟩
  refine wpAny_bind (wpAny_letGo ?_); have W := (PySem.Walks.listRev (prog := prog) (w := w) (A := A.in1.in1) hh it l hne items).toS
  have hSf : S ∉ [it, l] := by simp only [List.mem_cons, List.not_mem_nil, or_false, not_or]; exact ⟨n1, n2⟩
  have hT : ({ s with heap := h2 } : Shared).TypeIs (.ref it) "list_reverseiterator" := Heap.IsRevIter.typeIs (s := { s with heap := h2 }) hit2
  have h1 : Builtin.List.listSameRef (.ref S) (.ref it) = false := by simp [Builtin.List.listSameRef, n1]
  have q2 : (Value.type "list_reverseiterator" == Value.type "list") = false := by decide
  have q3 : (Value.type "list_reverseiterator" == Value.type "tuple") = false := by decide
  unfold Builtin.List.listExtendWith; refine wpAny_bind (wpAny_typeOf hT ?_)
  simp only [h1, q2, q3, Bool.or_false, Bool.false_eq_true, if_false]
  refine wpAny_bind (wpAny_pyIter_revIter (s := { s with heap := h2 }) hit2 ?_)
  refine wpAny_bind (wpAny_holding ?_); unfold Builtin.List.listLengthHint
  refine wpAny_bind (wpAny_specialOf hT _root_.RT.nolen_lri ?_)
  show wpAny _ A.in1.in1 (specialOf (Value.ref it) (Str.ofString "__length_hint__") >>= _) _ _ _
  refine wpAny_bind (wpAny_specialOf hT _root_.RT.hint_lri ?_)
  generalize hid : ("list_reverseiterator.__length_hint__" : String) = id0; wp_delta
  rw [show splitId id0 = some ("list_reverseiterator", "__length_hint__") from by subst hid; decide +kernel]; subst hid
  refine wpAny_bind (wpAny_isInstance (b := true) hT (by rw [isSubtype_type]; kernel_rfl) ?_); refine wpAny_pure ?_
  rw [if_neg (by decide)]
  (have e0 : ((items.size : Nat) : Int) - 1 - ((0 : Nat) : Int) = (items.size : Int) - 1 := by omega); refine wpAny_pure ⟨plainId_quiet F.plain_extend_loop _, codeAny_extend_loopS W hn S hSf _ items.size 0 _ _ _ rfl (Nat.zero_le _) ⟨Nat.zero_le _, by rw [e0]; exact hit2, hl2⟩ hS₂ (ItemsOf.nil _) fun s' acc' c' hm hS' hacc => ?_⟩
  rw [Moved.eq_with hm]
  refine ⟨rfl, hQ s'.heap s'.toks acc' c' (fun b o hb e => ?_) hS' hacc⟩
  have hbS : b ≠ S := fun z => by
    have l := Heap.lt_size e
    rw [z, hSe] at l
    exact Nat.lt_irrefl _ l
  refine hm.heap b o (fun hmem => ?_) (oth b o hbS e); rcases List.mem_cons.mp hmem with e' | hmem
  · exact hbS e'
  · exact hb (List.mem_singleton.1 hmem)
end
end RT
end PySem
namespace DL
open PySem PySem.Spec PyProof.Rows L2
/-- list(reversed(x)) -/
def tLstRev (K : PySem.W.Frag) (te : TE) : TE := fun σ H Q => te σ H fun v H1 => ∃ (a : Addr) (xs : List V), v = .ref a ∧ SqL K H1 a xs ∧ ∀ q, H1 q = none → Q (.ref q) (upd H1 q (.lst xs.reverse))
section
variable {X : Cx}
theorem pe_lstRev {e : Expr} {te : TE} {p p2 pos pos2 : Pos} (hc : X.calm = true) (hg : Gl X "list") (hm : X.mg "list" = none) (hg2 : Gl X "reversed") (hm2 : X.mg "reversed" = none) (he : PE X e te)
    (hs : starEach [e] X.env = (false, eval e X.env) :: starEach [] X.env := by rfl) (hs2 : starEach [.Call (.Name "reversed" p2) [e] [] pos2] X.env = (false, eval (.Call (.Name "reversed" p2) [e] [] pos2) X.env) :: starEach [] X.env := by rfl) :
    PE X (.Call (.Name "list" p) [.Call (.Name "reversed" p2) [e] [] pos2] [] pos) (tLstRev X.K te) := by
  refine ⟨fun pins s σ H Q I h => ?_⟩; refine Call_ (ld_blt I hg hm boot_list (PyProof.Rows.callWith_type1 (args_cons (Call_ (ld_blt I hg2 hm2 PyProof.Rows.boot_reversed (PyProof.Rows.callWith_type1 (args_cons (thn (he.run pins s σ H _ I h) fun u s1 ⟨v, H1, I1, r1, q1⟩ => args_nil ?_) hs) hs rfl))) hs2) hs2 rfl))
  obtain ⟨a, xs, ev, hq, q⟩ := q1; subst ev
  obtain rfl : u = Value.ref a := r1; obtain ⟨its, rv, p', hz⟩ := I1.list hq
  refine call_reversed_list p'.isList (args_nil ?_); have k0 : ∀ b o, s1.heap.get? b = some o → (s1.heap.push (revObj a ((its.toArray.size : Int) - 1))).get? b = some o := fun b o e => Heap.get?_push_of_some _ e
  have I2 : Inv X pins σ H1 { s1 with heap := s1.heap.push (revObj a ((its.toArray.size : Int) - 1)) } := I1.kept (t' := s1.toks) k0; have hl := p'.isList
  obtain ⟨ol, hol, _⟩ := id hl
  have hne : a ≠ s1.heap.objs.size := Nat.ne_of_lt (Heap.lt_size hol); have hn : its.toArray.size ≤ sizeLine := by rw [List.size_toArray, ← rv.length]; exact hz
  have hits : Heap.IsRevIter (s1.heap.push (revObj a ((its.toArray.size : Int) - 1))) s1.heap.objs.size a ((its.toArray.size : Int) - 1) := ⟨_, Heap.get?_push_size _ rfl, rfl, rfl⟩
  refine PySem.RT.list_rev_code (s := { s1 with heap := s1.heap.push (revObj a ((its.toArray.size : Int) - 1)) }) (I1.ok.hd hc) hits (hl.push _) hne hn fun h' tk acc c' hk hS hi => ?_
  have sz : (s1.heap.push (revObj a ((its.toArray.size : Int) - 1))).objs.size = s1.heap.objs.size + 1 := Heap.size_push _ _
  have hk1 : ∀ b o, s1.heap.get? b = some o → h'.get? b = some o := fun b o e => hk b o (Nat.ne_of_lt (Heap.lt_size e)) (k0 b o e)
  have I3 := I1.laid (h' := h') (a := (s1.heap.push (revObj a ((its.toArray.size : Int) - 1))).objs.size) (o := .lst xs.reverse) (t' := tk) hk1 (by rw [sz]; exact Nat.le_succ _) (show ObjOk X.prog X.w _ _ _ (.lst xs.reverse) from ⟨by rw [List.length_reverse]; exact hz, acc.toList, c', _root_.RT.vals_rev rv hi, by rw [Array.toArray_toList]; exact hS⟩)
  exact ⟨.ref _, _, I3, rfl, q _ (I1.hok.fresh (by rw [sz]; exact Nat.le_succ _))⟩
end
def revD' : D → Sto → R D
  | .loc n, s => (match s[n]? with
    | some (.lst xs) => .ok (.loc s.length) (s ++ [.lst xs.reverse])
    | _ => .no)
  | .fls xs, s => .ok (.loc s.length) (s ++ [.lst xs.reverse])
  | _, _ => .no
theorem d_lstRev {X : Cx} {Z : SC} {xc : Option Xc} {W : WX} {e : Expr} {fe : EF} {p p2 pos pos2 : Pos} (hm : X.mg "list" = none) (hm2 : X.mg "reversed" = none) (he : PE X e (dE Z xc W fe)) (hc : X.calm = true := by rfl) (hK : X.K = Z.K := by rfl) (hg : Gl X "list" := by rfl) (hg2 : Gl X "reversed" := by rfl)
    (hs : starEach [e] X.env = (false, eval e X.env) :: starEach [] X.env := by rfl) (hs2 : starEach [.Call (.Name "reversed" p2) [e] [] pos2] X.env = (false, eval (.Call (.Name "reversed" p2) [e] [] pos2) X.env) :: starEach [] X.env := by rfl) :
    PE X (.Call (.Name "list" p) [.Call (.Name "reversed" p2) [e] [] pos2] [] pos) (dE Z xc W (eUn revD' fe)) := by
  refine PE_imp (pe_lstRev hc hg hm hg2 hm2 he hs hs2) fun σ H Q ⟨ads, ρ, s, t, q⟩ => ⟨ads, ρ, s, t, bEE q fun d s1 v H1 ads1 x1 g1 r1 q1 => ?_⟩
  rw [hK]
  cases r1 with
  | @loc a n ha =>
    unfold revD' at q1
    dsimp only at q1
    cases hx : s1[n]? with
    | none => rw [hx] at q1; exact q1.elim
    | some c =>
      rw [hx] at q1
      cases c with
      | lst ds =>
        obtain ⟨xs, h1, h2, h3⟩ := g1.ok _ _ _ ha hx
        refine ⟨a, xs, rfl, .inl (.inl h1), fun l hl => ?_⟩
        have x2 : Xt Z.K H1 ads1 (upd H1 l (.lst xs.reverse)) (ads1 ++ [l]) := Xt.updNew (soft_none hl)
        refine q1 _ _ (ads1 ++ [l]) x2 (g1.alloc hl ⟨_, upd_same, h2.reverse.mono x2, by simpa using h3⟩) (.loc ?_)
        rw [← g1.len]; simp
      | _ => exact q1.elim
  | @fls a xs ds h r z =>
    refine ⟨a, xs, rfl, h.sq, fun l hl => ?_⟩
    have x2 : Xt Z.K H1 ads1 (upd H1 l (.lst xs.reverse)) (ads1 ++ [l]) := Xt.updNew (soft_none hl)
    refine q1 _ _ (ads1 ++ [l]) x2 (g1.alloc hl ⟨_, upd_same, r.reverse.mono x2, by simpa using z⟩) (.loc ?_)
    rw [← g1.len]; simp
  | _ => exact q1.elim
end DL

/-! DLH: what the head's run is asked for: defs, names, the own error classes. -/
namespace DL
open PySem PySem.Spec PyProof.Rows L2 He
open PySem.W (Frag)
/-- an own error class: its fields, its __init__ -/
structure XD where
  cls : Str
  fs : List Str
  qual : Str
  params : Arguments
  body : List Stmt
  scope : Scope
abbrev XV : Type := Option (Str × Str × Arguments × FuncBody × Scope × Addr × List Str × Addr)
def xObs (K : Frag) (d : XD) : XV := match K.lookup (ma K (ga K d.cls) "__init__") with
  | some ⟨_, _, .func fd, _⟩ => some (fd.name, fd.qualname, fd.params, fd.body, fd.scope, fd.globals, fd.closure.map (·.1), fd.builtins)
  | _ => none
def XD.val (d : XD) : XV := some ("__init__", d.qual, d.params, .stmts d.body, d.scope, mainGlobals, ["__class__"], builtinsNs)
/-- the class object -/
def xcB (K : Frag) (C : Addr) : Bool := match K.lookup C with
  | some ⟨.type "type", _, .cls cd, sl⟩ => (match sl.toList, cd.mro with
    | [_, _, _, _, some (.builtin n), _], .ref C' :: bm => decide (C' = C) && (decide (n = "ValueError.__new__") && (!cd.hasDel && (cd.hasDict && PySem.HandSPX.refsVE bm)))
    | _, _ => false)
  | _ => false
theorem xcB_ok {K : Frag} {C : Addr} (h : xcB K C = true) : ∃ nm q N bs bm sn sub ab col dd k0 k1 k2 k3 k5, K.lookup C = some (excClassObj nm q C N bs bm true sn sub ab col dd k0 k1 k2 k3 k5 "ValueError.__new__") ∧ PySem.HandSPX.refsVE bm = true := by
  unfold xcB at h
  split at h
  · rename_i dd cd sl ho
    split at h
    · rename_i k0 k1 k2 k3 n k5 C' bm hs hm
      obtain ⟨h1, h⟩ := ba h
      obtain ⟨h2, h⟩ := ba h
      obtain ⟨h3, h⟩ := ba h
      obtain ⟨h4, h5⟩ := ba h
      have e1 := of_decide_eq_true h1
      have e2 := of_decide_eq_true h2
      subst e1 e2
      obtain ⟨nm, bs, mro, ns, qn, hd, sn, sub, ab, col, del⟩ := cd; dsimp only at hm h3 h4
      have h3 : del = false := by simpa using h3
      subst hm h3 h4
      have hsl : sl = #[k0, k1, k2, k3, some (.builtin "ValueError.__new__"), k5] := by
        obtain ⟨l⟩ := sl
        simp only at hs
        rw [hs]
      subst hsl
      exact ⟨nm, qn, ns, bs, bm, sn, sub, ab, col, dd, k0, k1, k2, k3, k5, ho, h5⟩
    · cases h
  · cases h
/-- what is asked of every own class C -/
def xB (K : Frag) (C : Addr) (fs : List Str) : Bool := xcB K C && (eqO (PySem.W.findIn K (.ref C) "__setattr__") (some (some (.builtin "object.__setattr__"))) && ((fs.all fun f => eqO (PySem.W.findIn K (.ref C) f) (some none)) && (PySem.W.keepIn K (.ref C) &&
  (decide (PySem.W.subIn K (.ref C) (.type "BaseException") = some true) && (decide (PySem.W.typeIn K (.ref C) = some (.type "type")) && (decide (PySem.W.mroIn K C (.ref C) = some true) && (decide (PySem.W.mroIn K C (.type "ValueError") = some true) &&
  (eqO (PySem.W.ks_superIn K C C "__init__") (some (some (.builtin "ValueError.__init__"))) && eqO (PySem.W.nsIn K cStatics "thirdparty.any") (some none)))))))))
theorem xB_ok {P : Program} {K : Frag} {C : Addr} {fs : List Str} (h : xB K C fs = true) : PySem.XV.XCls P K C fs := by
  obtain ⟨h1, h⟩ := ba h
  obtain ⟨h2, h⟩ := ba h
  obtain ⟨h3, h⟩ := ba h
  obtain ⟨h4, h⟩ := ba h
  obtain ⟨h5, h⟩ := ba h
  obtain ⟨h6, h⟩ := ba h
  obtain ⟨h7, h⟩ := ba h
  obtain ⟨h8, h⟩ := ba h
  obtain ⟨h9, h10⟩ := ba h
  exact ⟨xcB_ok h1, eqO_ok h2, fun f hf => eqO_ok (List.all_eq_true.mp h3 f hf), h4, of_decide_eq_true h5, of_decide_eq_true h6, of_decide_eq_true h7, of_decide_eq_true h8, eqO_ok h9, eqO_ok h10⟩
/-- the class's __init__ -/
def xiB (K : Frag) (file : Str) (d : XD) : Bool := eqO (PySem.W.nsIn K mainGlobals d.cls) (some (some (.ref (ga K d.cls)))) && (xB K (ga K d.cls) d.fs && (eqO (PySem.W.findIn K (.ref (ga K d.cls)) "__init__") (some (some (.ref (ma K (ga K d.cls) "__init__")))) &&
  (decide (PySem.W.typeIn K (.ref (ma K (ga K d.cls) "__init__")) = some (.type "function")) && (match K.lookup (ma K (ga K d.cls) "__init__") with
    | some ⟨_, _, .func fd, _⟩ => (match fd.code, fd.closure with
      | .ref cda, [(_, cc)] => PySem.W.codeIn K (.ref cda) d.qual && (decide (fd.defaults = .none) && ((match K.lookup cda with
        | some ⟨_, _, .fields vs, _⟩ => (match (vs[2]? : Option Value) with
          | some (Value.str f _) => file == f
          | _ => false)
        | _ => false) && (match K.lookup cc with
        | some ⟨_, _, .cell (some (.ref C)), _⟩ => decide (C = ga K d.cls)
        | _ => false)))
      | _, _ => false)
    | _ => false))))
theorem xi_ok {P : Program} {K : Frag} {d : XD} (h : xiB K P.main.file d = true) (e : xObs K d = d.val) : PySem.W.nsIn K mainGlobals d.cls = some (some (.ref (ga K d.cls))) ∧ PySem.XV.XInit P K (ga K d.cls) d.fs d.qual d.scope d.body d.params := by
  obtain ⟨h1, h⟩ := ba h
  obtain ⟨h2, h⟩ := ba h
  obtain ⟨h3, h⟩ := ba h
  obtain ⟨h4, h⟩ := ba h
  refine ⟨eqO_ok h1, xB_ok h2, ?_⟩
  unfold xObs at e
  cases q : K.lookup (ma K (ga K d.cls) "__init__") with
  | none => rw [q] at h; cases h
  | some o =>
    obtain ⟨oc, od, dt, osl⟩ := o
    rw [q] at h e
    cases dt with
    | func fd =>
      obtain ⟨n1, n2, n3, n4, n5, n6, n7, n8, n9, n10, n11, n12, n13, n14, n15⟩ := fd; have e2 : (some (n1, n2, n3, n4, n5, n6, n7.map (·.1), n15) : XV) = some (("__init__" : Str), d.qual, d.params, .stmts d.body, d.scope, mainGlobals, [("__class__" : Str)], builtinsNs) := e
      simp only [Option.some.injEq, Prod.mk.injEq] at e2; obtain ⟨a1, a2, a3, a4, a5, a6, a7, a8⟩ := e2
      dsimp only at h
      cases n13 with
      | ref cda =>
        match n7, a7, h with
        | [(z, cc)], a7, h =>
          have a7' : z = "__class__" := by simpa using a7
          obtain ⟨c1, c0⟩ := ba h
          obtain ⟨cd, c2⟩ := ba c0
          obtain ⟨c3, c4⟩ := ba c2
          have a9 : n8 = .none := of_decide_eq_true cd
          subst a1 a2 a3 a4 a5 a6 a7' a8 a9
          refine ⟨ma K (ga K d.cls) "__init__", cda, cc, n9, n10, n11, n14, oc, n12, od, osl, eqO_ok h3, of_decide_eq_true h4, q, c1, ?_, ?_⟩
          · cases q2 : K.lookup cda with
            | none => rw [q2] at c3; cases c3
            | some o2 =>
              obtain ⟨oc2, od2, dt2, osl2⟩ := o2; rw [q2] at c3
              cases dt2 with
              | fields vs =>
                dsimp only at c3
                cases q3 : vs[2]? with
                | none => rw [q3] at c3; cases c3
                | some v =>
                  rw [q3] at c3
                  cases v with
                  | str f t => exact ⟨_, _, _, _, f, t, rfl, q3, c3⟩
                  | _ => cases c3
              | _ => cases c3
          · cases q2 : K.lookup cc with
            | none => rw [q2] at c4; cases c4
            | some o2 =>
              obtain ⟨oc2, od2, dt2, osl2⟩ := o2; rw [q2] at c4
              cases dt2 with
              | cell v =>
                cases v with
                | none => cases c4
                | some v =>
                  cases v with
                  | ref C => exact ⟨_, _, _, by rw [of_decide_eq_true c4]⟩
                  | _ => cases c4
              | _ => cases c4
      | _ => cases h
    | _ => cases h
/-! ### tables of classes -/
/-- the classes that may be raised, caught, asked for: by name -/
def clsOf (K : Frag) (names : List Str) : Str → Option Addr := fun c => if c ∈ names then some (ga K c) else none
theorem clsOf_some {K : Frag} {names : List Str} {c : Str} {C : Addr} (h : clsOf K names c = some C) : c ∈ names ∧ C = ga K c := by
  unfold clsOf at h
  by_cases hc : c ∈ names
  · rw [if_pos hc] at h
    cases h
    exact ⟨hc, rfl⟩
  · rw [if_neg hc] at h
    cases h
theorem clsOf_in {K : Frag} {names : List Str} {c : Str} (h : c ∈ names) : clsOf K names c = some (ga K c) := if_pos h
def excB (K : Frag) (D : Addr) : Bool := xfB K D && (eqO (PySem.W.findIn K (.ref D) "__class__") (some (some (.builtin "object.__class__"))) && (decide (PySem.W.specialIn K (.builtin "object.__class__") "__get__" = some (some (.builtin "getset_descriptor.__get__"))) &&
  (decide (PySem.W.takesIn K (.builtin "object.__class__") = some true) && decide (PySem.W.mroIn K D (.type "object") = some true))))
theorem excB_ok {K : Frag} {D : Addr} (h : excB K D = true) : XfC K D ∧ ExcC K D := by
  obtain ⟨h1, h⟩ := ba h
  obtain ⟨h2, h⟩ := ba h
  obtain ⟨h3, h⟩ := ba h
  obtain ⟨h4, h5⟩ := ba h
  have F := xfB_ok h1
  exact ⟨F, F.ga, F.gg, F.exC, F.hdC, eqO_ok h2, of_decide_eq_true h3, of_decide_eq_true h4, of_decide_eq_true h5⟩
def tabB (K : Frag) (names fns : List Str) : Bool := names.all fun c => excB K (ga K c) && fns.all fun f => eqO (PySem.W.findIn K (.ref (ga K c)) f) (some none)
theorem tabB_ok {K : Frag} {names fns : List Str} (h : tabB K names fns = true) : XTab ⟨K, clsOf K names⟩ fns := by
  have k : ∀ c C, clsOf K names c = some C → excB K C = true ∧ ∀ f ∈ fns, PySem.W.findIn K (.ref C) f = some none := fun c C e => by
    obtain ⟨h1, h2⟩ := clsOf_some e
    subst h2
    obtain ⟨h3, h4⟩ := ba (List.all_eq_true.mp h c h1)
    exact ⟨h3, fun f hf => eqO_ok (List.all_eq_true.mp h4 f hf)⟩
  exact ⟨fun c C e => (excB_ok (k c C e).1).1, fun c C e => (excB_ok (k c C e).1).2, fun c C e => (k c C e).2⟩
/-- is a class of the table one of the class y -/
def isB (l : List Str) : Str → Bool := fun c => decide (c ∈ l)
/-- y: an own class, or a built-in one -/
inductive CN where
  | own (y : Str)
  | ty (n : String)
def CN.val (K : Frag) : CN → Value
  | .own y => .ref (ga K y)
  | .ty n => .type n
def catchB (K : Frag) (names : List Str) (y : CN) (l : List Str) : Bool := names.all fun c => decide (PySem.W.exmOne K (.ref (ga K c)) (y.val K) = some (isB l c)) && decide (PySem.W.kitOne K (.ref (ga K c)) (y.val K) = some (isB l c))
theorem catchB_ok {K : Frag} {names : List Str} {y : CN} {l : List Str} (h : catchB K names y l = true) : Catch ⟨K, clsOf K names⟩ (y.val K) (isB l) ∧ IsX ⟨K, clsOf K names⟩ (y.val K) (isB l) := by
  refine ⟨fun c C e => ?_, fun c C e => ?_⟩
  · obtain ⟨h1, h2⟩ := clsOf_some e
    subst h2
    exact of_decide_eq_true (ba (List.all_eq_true.mp h c h1)).1
  · obtain ⟨h1, h2⟩ := clsOf_some e
    subst h2
    exact of_decide_eq_true (ba (List.all_eq_true.mp h c h1)).2
/-! ### the hook -/
def asK (g : Addr → Option Obj) (n : Nat) : List Addr := asD g n ++ [cStatics]
abbrev AlK : Type := AlD × (Bool × List XV)
def obsK (fa : List Fa) (fn : List DefD) (xs : List XD) (file : Str) (ex : Frag → Bool) (K : Frag) : AlK := (obsD fa fn K, ex K && xs.all fun d => xiB K file d, xs.map fun d => xObs K d)
def obsKG (n : Nat) (fa : List Fa) (fn : List DefD) (xs : List XD) (file : Str) (ex : Frag → Bool) (g : Addr → Option Obj) : AlK := obsK fa fn xs file ex (frT g (asK g n))
def valK (fn : List DefD) (xs : List XD) : AlK := (valD fn, true, xs.map XD.val)
structure SaysK (fa : List Fa) (fn : List DefD) (xs : List XD) (file : Str) (ex : Frag → Bool) (K : Frag) : Prop where
  d : SaysD fa fn K
  more : ex K = true
  xi : ∀ (i : Nat) (d : XD), xs[i]? = some d → xiB K file d = true ∧ xObs K d = d.val
theorem saysK_of {fa : List Fa} {fn : List DefD} {xs : List XD} {file : Str} {ex : Frag → Bool} {K : Frag} (e : obsK fa fn xs file ex K = valK fn xs) : SaysK fa fn xs file ex K := by
  have e1 : obsD fa fn K = valD fn := congrArg (fun z : AlK => z.1) e
  have e2 : (ex K && xs.all fun d => xiB K file d) = true := congrArg (fun z : AlK => z.2.1) e
  have e3 : (xs.map fun d => xObs K d) = xs.map XD.val := congrArg (fun z : AlK => z.2.2) e
  obtain ⟨h1, h2⟩ := ba e2
  refine ⟨e1, h1, fun i d hd => ⟨List.all_eq_true.mp h2 d (List.mem_of_getElem? hd), ?_⟩⟩
  have e4 : (xs.map fun d => xObs K d)[i]? = (xs.map XD.val)[i]? := by rw [e3]
  rw [List.getElem?_map, List.getElem?_map, hd] at e4
  exact Option.some.inj e4
def hookK (n : Nat) (fa : List Fa) (fn : List DefD) (xs : List XD) (file : Str) (ex : Frag → Bool) : PySem.W.Hook where
  α := AlK
  obs := fun s => obsKG n fa fn xs file ex s.heap.get?
  val := fun _ => valK fn xs
  says := fun _ h => ∃ K : Frag, K.In h ∧ SaysK fa fn xs file ex K
  of := fun _ _ e => ⟨_, frT_in, saysK_of e⟩
  keeps := fun _ _ _ ⟨K, hK, c⟩ k => ⟨K, PySem.W.Frag.In.keeps (K := K) hK k, c⟩
theorem obsK_eq {n : Nat} {fa : List Fa} {fn : List DefD} {xs : List XD} {file : Str} {ex : Frag → Bool} {g : Addr → Option Obj} {s : Shared} (h : ∀ a, g a = s.heap.get? a) : obsKG n fa fn xs file ex g = (hookK n fa fn xs file ex).obs s := by
  have e : g = s.heap.get? := funext h; rw [e] <;> rfl
/-- the j-th statement of a class -/
def subSt (st : Stmt) (j : Nat) : Stmt := match st with
  | .ClassDef _ _ _ body _ _ _ _ _ _ _ => (body.getD j (.Pass ⟨0, 0, 0, 0⟩))
  | s => s
end DL

/-! DLM: what the functions of the data layer do, without a program. -/
namespace DL
open PySem PySem.Spec PyProof.Rows L2
/-! ### the end of a def -/
theorem trim_eq (d : D) (s : Sto) : trimR s (.ok d s) = .ok d s := by
  unfold trimR
  dsimp only
  split <;> rfl
theorem trim_app {d : D} (s l : Sto) (h : d.flat = true) : trimR s (.ok d (s ++ l)) = .ok d s := by
  unfold trimR
  dsimp only
  rw [if_pos ⟨h, by simp⟩]
theorem trim_ex (e : Exn) (s : Sto) : trimR s (.ex e s) = .ex e s := by
  unfold trimR
  dsimp only
  split <;> rfl
theorem trim_any (d : D) (s s' : Sto) : trimR s (.ok d s') = .ok d s' ∨ (s'.take s.length = s ∧ trimR s (.ok d s') = .ok d s) := by
  unfold trimR
  dsimp only
  by_cases h : d.flat = true ∧ s'.take s.length = s
  · exact .inr ⟨h.2, by rw [if_pos h]⟩
  · exact .inl (by rw [if_neg h])
/-! ### numbers -/
def gI (a b : Int) : Int := ((Nat.gcd a.natAbs b.natAbs : Nat) : Int)
def loD (a b : Int) : D := .tup [.int (a / gI a b), .int (b / gI a b)]
theorem gI_pos {a b : Int} (h : 1 ≤ b) : 0 < gI a b := by
  unfold gI
  have : 0 < Nat.gcd a.natAbs b.natAbs := Nat.gcd_pos_of_pos_right _ (by omega)
  omega
theorem gI_le {a b : Int} (h : 1 ≤ b) : (gI a b).natAbs ≤ b.natAbs := by
  unfold gI
  rw [Int.natAbs_natCast]
  exact Nat.gcd_le_right _ (by omega)
theorem mulOk_b {i j : Int} {m n : Nat} (h1 : i.natAbs < 2 ^ m) (h2 : j.natAbs < 2 ^ n) (hm : m ≤ 40000000) (hn : n ≤ 40000000) : mulOk i j = true := by
  have b : ∀ k, k ≤ 40000000 → 2 ^ k ≤ bigN := fun k h => by rw [bigN_eq]; exact Nat.pow_le_pow_right (by decide) h
  unfold mulOk
  rw [decide_eq_true (Nat.lt_of_lt_of_le h1 (b _ hm)), decide_eq_true (Nat.lt_of_lt_of_le h2 (b _ hn))]
  rfl
/-! ### how a term steps -/
def kSeq (G : SF) : RS → RS
  | .nx ρ s => G ρ s
  | .rt d s => .rt d s
  | .bk ρ s => .bk ρ s
  | .ct ρ s => .ct ρ s
  | .ex e ρ s => .ex e ρ s
  | .no => .no
theorem kSeq_0 (G : SF) (ρ : En) (s : Sto) : kSeq G (.nx ρ s) = G ρ s := rfl
theorem kSeq_1 (G : SF) (d : D) (s : Sto) : kSeq G (.rt d s) = .rt d s := rfl
theorem kSeq_2 (G : SF) (ρ : En) (s : Sto) : kSeq G (.bk ρ s) = .bk ρ s := rfl
theorem kSeq_3 (G : SF) (ρ : En) (s : Sto) : kSeq G (.ct ρ s) = .ct ρ s := rfl
theorem kSeq_4 (G : SF) (e : Exn) (ρ : En) (s : Sto) : kSeq G (.ex e ρ s) = .ex e ρ s := rfl
theorem sSeq_k (F G : SF) (ρ : En) (s : Sto) : sSeq F G ρ s = kSeq G (F ρ s) := by unfold sSeq; cases F ρ s <;> rfl
theorem sSkip_k (ρ : En) (s : Sto) : sSkip ρ s = .nx ρ s := rfl
theorem sBreak_k (ρ : En) (s : Sto) : sBreak ρ s = .bk ρ s := rfl
theorem sCont_k (ρ : En) (s : Sto) : sCont ρ s = .ct ρ s := rfl
theorem sRetN_k (ρ : En) (s : Sto) : sRetN ρ s = .rt .non s := rfl
def kExpr  (ρ : En) : R D → RS
  | .ok d s => .nx ρ s
  | .ex e s => .ex e ρ s
  | .no => .no
theorem kExpr_0  (ρ : En) (d : D) (s : Sto) : kExpr  ρ (.ok d s) = .nx ρ s := rfl
theorem kExpr_1  (ρ : En) (e : Exn) (s : Sto) : kExpr  ρ (.ex e s) = .ex e ρ s := rfl
theorem sExpr_k (e : EF) (ρ : En) (s : Sto) : sExpr e ρ s = kExpr ρ (e ρ s) := by unfold sExpr; cases e ρ s <;> rfl
def kRet  (ρ : En) : R D → RS
  | .ok d s => .rt d s
  | .ex e s => .ex e ρ s
  | .no => .no
theorem kRet_0  (ρ : En) (d : D) (s : Sto) : kRet  ρ (.ok d s) = .rt d s := rfl
theorem kRet_1  (ρ : En) (e : Exn) (s : Sto) : kRet  ρ (.ex e s) = .ex e ρ s := rfl
theorem sRet_k (e : EF) (ρ : En) (s : Sto) : sRet e ρ s = kRet ρ (e ρ s) := by unfold sRet; cases e ρ s <;> rfl
def kIf (F G : SF) (ρ : En) : R Bool → RS
  | .ok true s => F ρ s
  | .ok false s => G ρ s
  | .ex e s => .ex e ρ s
  | .no => .no
theorem kIf_0 (F G : SF) (ρ : En) (s : Sto) : kIf F G ρ (.ok true s) = F ρ s := rfl
theorem kIf_1 (F G : SF) (ρ : En) (s : Sto) : kIf F G ρ (.ok false s) = G ρ s := rfl
theorem kIf_2 (F G : SF) (ρ : En) (e : Exn) (s : Sto) : kIf F G ρ (.ex e s) = .ex e ρ s := rfl
theorem sIf_k (c : TF) (F G : SF) (ρ : En) (s : Sto) : sIf c F G ρ s = kIf F G ρ (c ρ s) := by unfold sIf; rcases c ρ s with ⟨_ | _, _⟩ | _ | _ <;> rfl
def kAsg2 (ρ : En) (s : Sto) : Option En → RS
  | some ρ' => .nx ρ' s
  | none => .no
theorem kAsg2_0 (ρ : En) (s : Sto) (ρ' : En) : kAsg2 ρ s (some ρ') = .nx ρ' s := rfl
def kAsg (g : GF) (ρ : En) : R D → RS
  | .ok d s => kAsg2 ρ s (g d ρ)
  | .ex e s => .ex e ρ s
  | .no => .no
theorem kAsg_0 (g : GF) (ρ : En) (d : D) (s : Sto) : kAsg g ρ (.ok d s) = kAsg2 ρ s (g d ρ) := rfl
theorem kAsg_1 (g : GF) (ρ : En) (e : Exn) (s : Sto) : kAsg g ρ (.ex e s) = .ex e ρ s := rfl
theorem sAsg_k (g : GF) (e : EF) (ρ : En) (s : Sto) : sAsg g e ρ s = kAsg g ρ (e ρ s) := by
  unfold sAsg
  cases h : e ρ s with
  | ok d s1 => show (match g d ρ with | some ρ' => _ | none => _) = kAsg2 ρ s1 (g d ρ); cases g d ρ <;> rfl
  | ex _ _ => rfl
  | no => rfl
theorem sSet_k (i : Nat) (e : EF) (ρ : En) (s : Sto) : sSet i e ρ s = kAsg (gN i) ρ (e ρ s) := sAsg_k _ _ _ _
theorem gN_k (i : Nat) (d : D) (ρ : En) : gN i d ρ = some (ρ.set i (.d d)) := rfl
theorem gsN_k (ρ : En) : gsN [] ρ = some ρ := rfl
def kG (gs : GFs) (ds : List D) : Option En → Option En
  | some ρ => gs ds ρ
  | none => none
theorem kG_0 (gs : GFs) (ds : List D) (ρ : En) : kG gs ds (some ρ) = gs ds ρ := rfl
theorem gsC_k (g : GF) (gs : GFs) (d : D) (ds : List D) (ρ : En) : gsC g gs (d :: ds) ρ = kG gs ds (g d ρ) := by unfold gsC; cases h : g d ρ <;> simp [h, kG]
theorem gT_k (gs : GFs) (xs : List D) (ρ : En) : gT gs (.tup xs) ρ = gs xs ρ := rfl
def kPut4 (ρ : En) : Option Sto → RS
  | some s => .nx ρ s
  | none => .no
theorem kPut4_0 (ρ : En) (s : Sto) : kPut4 ρ (some s) = .nx ρ s := rfl
def kPut3 (v x : D) (ρ : En) : R D → RS
  | .ok y s => kPut4 ρ (putD x y v s)
  | .ex e s => .ex e ρ s
  | .no => .no
theorem kPut3_0 (v x : D) (ρ : En) (y : D) (s : Sto) : kPut3 v x ρ (.ok y s) = kPut4 ρ (putD x y v s) := rfl
theorem kPut3_1 (v x : D) (ρ : En) (e : Exn) (s : Sto) : kPut3 v x ρ (.ex e s) = .ex e ρ s := rfl
def kPut2 (i : EF) (v : D) (ρ : En) : R D → RS
  | .ok x s => kPut3 v x ρ (i ρ s)
  | .ex e s => .ex e ρ s
  | .no => .no
theorem kPut2_0 (i : EF) (v : D) (ρ : En) (x : D) (s : Sto) : kPut2 i v ρ (.ok x s) = kPut3 v x ρ (i ρ s) := rfl
theorem kPut2_1 (i : EF) (v : D) (ρ : En) (e : Exn) (s : Sto) : kPut2 i v ρ (.ex e s) = .ex e ρ s := rfl
def kPut (o i : EF) (ρ : En) : R D → RS
  | .ok v s => kPut2 i v ρ (o ρ s)
  | .ex e s => .ex e ρ s
  | .no => .no
theorem kPut_0 (o i : EF) (ρ : En) (v : D) (s : Sto) : kPut o i ρ (.ok v s) = kPut2 i v ρ (o ρ s) := rfl
theorem kPut_1 (o i : EF) (ρ : En) (e : Exn) (s : Sto) : kPut o i ρ (.ex e s) = .ex e ρ s := rfl
theorem sPut_k (o i e : EF) (ρ : En) (s : Sto) : sPut o i e ρ s = kPut o i ρ (e ρ s) := by
  unfold sPut
  cases e ρ s with
  | ok v s1 =>
    show R.thenS (o ρ s1) ρ _ = kPut2 i v ρ (o ρ s1)
    cases o ρ s1 with
    | ok x s2 =>
      show R.thenS (i ρ s2) ρ _ = kPut3 v x ρ (i ρ s2)
      cases i ρ s2 with
      | ok y s3 => show (match putD x y v s3 with | some s4 => _ | none => _) = kPut4 ρ (putD x y v s3); cases putD x y v s3 <;> rfl
      | ex _ _ => rfl
      | no => rfl
    | ex _ _ => rfl
    | no => rfl
  | ex _ _ => rfl
  | no => rfl
theorem sPar_k (i j : Nat) (as : AF) (ρ : En) (s s1 : Sto) (a b : D) (h : as ρ s = .ok [a, b] s1) : sPar i j as ρ s = .nx ((ρ.set i (.d a)).set j (.d b)) s1 := by unfold sPar; rw [h]; rfl
def kVar (s : Sto) : Option Sl → R D
  | some (.d d) => .ok d s
  | _ => .no
theorem kVar_0 (s : Sto) (d : D) : kVar s (some (.d d)) = .ok d s := rfl
theorem eVar_k (i : Nat) (ρ : En) (s : Sto) : eVar i ρ s = kVar s ρ[i]? := by unfold eVar kVar; rfl
theorem eC_k (d : D) (ρ : En) (s : Sto) : eC d ρ s = .ok d s := rfl
def kUn (op : D → Sto → R D) : R D → R D
  | .ok d s => op d s
  | .ex e s => .ex e s
  | .no => .no
theorem kUn_0 (op : D → Sto → R D) (d : D) (s : Sto) : kUn op (.ok d s) = op d s := rfl
theorem kUn_1 (op : D → Sto → R D) (e : Exn) (s : Sto) : kUn op (.ex e s) = .ex e s := rfl
theorem eUn_k (op : D → Sto → R D) (a : EF) (ρ : En) (s : Sto) : eUn op a ρ s = kUn op (a ρ s) := by unfold eUn; cases a ρ s <;> rfl
theorem eIsi_k (T : List Ty) (a : EF) (ρ : En) (s : Sto) : eIsi T a ρ s = kUn (isiD T) (a ρ s) := by unfold eIsi; cases a ρ s <;> rfl
def kBin2 (op : D → D → Sto → R D) (x : D) : R D → R D
  | .ok y s => op x y s
  | .ex e s => .ex e s
  | .no => .no
theorem kBin2_0 (op : D → D → Sto → R D) (x : D) (y : D) (s : Sto) : kBin2 op x (.ok y s) = op x y s := rfl
theorem kBin2_1 (op : D → D → Sto → R D) (x : D) (e : Exn) (s : Sto) : kBin2 op x (.ex e s) = .ex e s := rfl
def kBin (op : D → D → Sto → R D) (b : EF) (ρ : En) : R D → R D
  | .ok x s => kBin2 op x (b ρ s)
  | .ex e s => .ex e s
  | .no => .no
theorem kBin_0 (op : D → D → Sto → R D) (b : EF) (ρ : En) (x : D) (s : Sto) : kBin op b ρ (.ok x s) = kBin2 op x (b ρ s) := rfl
theorem kBin_1 (op : D → D → Sto → R D) (b : EF) (ρ : En) (e : Exn) (s : Sto) : kBin op b ρ (.ex e s) = .ex e s := rfl
theorem eBin_k (op : D → D → Sto → R D) (a b : EF) (ρ : En) (s : Sto) : eBin op a b ρ s = kBin op b ρ (a ρ s) := by
  unfold eBin
  cases a ρ s with
  | ok x s1 => show R.bind (b ρ s1) _ = kBin2 op x (b ρ s1); cases b ρ s1 <;> rfl
  | ex _ _ => rfl
  | no => rfl
theorem aNil_k (ρ : En) (s : Sto) : aNil ρ s = .ok [] s := rfl
def kCons2 (x : D) : R (List D) → R (List D)
  | .ok xs s => .ok (x :: xs) s
  | .ex e s => .ex e s
  | .no => .no
theorem kCons2_0 (x : D) (xs : List D) (s : Sto) : kCons2 x (.ok xs s) = .ok (x :: xs) s := rfl
theorem kCons2_1 (x : D) (e : Exn) (s : Sto) : kCons2 x (.ex e s) = .ex e s := rfl
def kCons (as : AF) (ρ : En) : R D → R (List D)
  | .ok x s => kCons2 x (as ρ s)
  | .ex e s => .ex e s
  | .no => .no
theorem kCons_0 (as : AF) (ρ : En) (x : D) (s : Sto) : kCons as ρ (.ok x s) = kCons2 x (as ρ s) := rfl
theorem kCons_1 (as : AF) (ρ : En) (e : Exn) (s : Sto) : kCons as ρ (.ex e s) = .ex e s := rfl
theorem aCons_k (a : EF) (as : AF) (ρ : En) (s : Sto) : aCons a as ρ s = kCons as ρ (a ρ s) := by
  unfold aCons
  cases a ρ s with
  | ok x s1 => show R.bind (as ρ s1) _ = kCons2 x (as ρ s1); cases as ρ s1 <;> rfl
  | ex _ _ => rfl
  | no => rfl
def kApp (op : List D → Sto → R D) : R (List D) → R D
  | .ok ds s => op ds s
  | .ex e s => .ex e s
  | .no => .no
theorem kApp_0 (op : List D → Sto → R D) (ds : List D) (s : Sto) : kApp op (.ok ds s) = op ds s := rfl
theorem kApp_1 (op : List D → Sto → R D) (e : Exn) (s : Sto) : kApp op (.ex e s) = .ex e s := rfl
theorem eApp_k (op : List D → Sto → R D) (as : AF) (ρ : En) (s : Sto) : eApp op as ρ s = kApp op (as ρ s) := by unfold eApp; cases as ρ s <;> rfl
def kMt2 (op : D → List D → Sto → R D) (x : D) : R (List D) → R D
  | .ok ds s => op x ds s
  | .ex e s => .ex e s
  | .no => .no
theorem kMt2_0 (op : D → List D → Sto → R D) (x : D) (ds : List D) (s : Sto) : kMt2 op x (.ok ds s) = op x ds s := rfl
theorem kMt2_1 (op : D → List D → Sto → R D) (x : D) (e : Exn) (s : Sto) : kMt2 op x (.ex e s) = .ex e s := rfl
def kMt1 (op : D → List D → Sto → R D) (as : AF) (ρ : En) (x : D) (s : Sto) : Bool → R D
  | true => kMt2 op x (as ρ s)
  | false => .no
theorem kMt1_0 (op : D → List D → Sto → R D) (as : AF) (ρ : En) (x : D) (s : Sto) : kMt1 op as ρ x s (true) = kMt2 op x (as ρ s) := rfl
def kMt (T : String) (op : D → List D → Sto → R D) (as : AF) (ρ : En) : R D → R D
  | .ok x s => kMt1 op as ρ x s (tyD T x s)
  | .ex e s => .ex e s
  | .no => .no
theorem kMt_0 (T : String) (op : D → List D → Sto → R D) (as : AF) (ρ : En) (x : D) (s : Sto) : kMt T op as ρ (.ok x s) = kMt1 op as ρ x s (tyD T x s) := rfl
theorem kMt_1 (T : String) (op : D → List D → Sto → R D) (as : AF) (ρ : En) (e : Exn) (s : Sto) : kMt T op as ρ (.ex e s) = .ex e s := rfl
theorem eMt_k (T : String) (op : D → List D → Sto → R D) (o : EF) (as : AF) (ρ : En) (s : Sto) : eMt T op o as ρ s = kMt T op as ρ (o ρ s) := by
  unfold eMt
  cases o ρ s with
  | ok x s1 =>
    show (if tyD T x s1 then _ else _) = kMt1 op as ρ x s1 (tyD T x s1)
    cases tyD T x s1 with
    | true => show R.bind (as ρ s1) _ = kMt2 op x (as ρ s1); cases as ρ s1 <;> rfl
    | false => rfl
  | ex _ _ => rfl
  | no => rfl
def kTru (op : D → Sto → R Bool) : R D → R Bool
  | .ok d s => op d s
  | .ex e s => .ex e s
  | .no => .no
theorem kTru_0 (op : D → Sto → R Bool) (d : D) (s : Sto) : kTru op (.ok d s) = op d s := rfl
theorem kTru_1 (op : D → Sto → R Bool) (e : Exn) (s : Sto) : kTru op (.ex e s) = .ex e s := rfl
theorem tTru_k (op : D → Sto → R Bool) (a : EF) (ρ : En) (s : Sto) : tTru op a ρ s = kTru op (a ρ s) := by unfold tTru; cases a ρ s <;> rfl
def kAnd (b : TF) (ρ : En) : R Bool → R Bool
  | .ok true s => b ρ s
  | .ok false s => .ok false s
  | .ex e s => .ex e s
  | .no => .no
theorem kAnd_0 (b : TF) (ρ : En) (s : Sto) : kAnd b ρ (.ok true s) = b ρ s := rfl
theorem kAnd_1 (b : TF) (ρ : En) (s : Sto) : kAnd b ρ (.ok false s) = .ok false s := rfl
theorem kAnd_2 (b : TF) (ρ : En) (e : Exn) (s : Sto) : kAnd b ρ (.ex e s) = .ex e s := rfl
theorem tAndF_k (a b : TF) (ρ : En) (s : Sto) : tAndF a b ρ s = kAnd b ρ (a ρ s) := by unfold tAndF; rcases a ρ s with ⟨_ | _, _⟩ | _ | _ <;> rfl
def kOr (b : TF) (ρ : En) : R Bool → R Bool
  | .ok true s => .ok true s
  | .ok false s => b ρ s
  | .ex e s => .ex e s
  | .no => .no
theorem kOr_0 (b : TF) (ρ : En) (s : Sto) : kOr b ρ (.ok true s) = .ok true s := rfl
theorem kOr_1 (b : TF) (ρ : En) (s : Sto) : kOr b ρ (.ok false s) = b ρ s := rfl
theorem kOr_2 (b : TF) (ρ : En) (e : Exn) (s : Sto) : kOr b ρ (.ex e s) = .ex e s := rfl
theorem tOrF_k (a b : TF) (ρ : En) (s : Sto) : tOrF a b ρ s = kOr b ρ (a ρ s) := by unfold tOrF; rcases a ρ s with ⟨_ | _, _⟩ | _ | _ <;> rfl
def kNot  : R Bool → R Bool
  | .ok true s => .ok false s
  | .ok false s => .ok true s
  | .ex e s => .ex e s
  | .no => .no
theorem kNot_0  (s : Sto) : kNot  (.ok true s) = .ok false s := rfl
theorem kNot_1  (s : Sto) : kNot  (.ok false s) = .ok true s := rfl
theorem kNot_2  (e : Exn) (s : Sto) : kNot  (.ex e s) = .ex e s := rfl
theorem tNotF_k (a : TF) (ρ : En) (s : Sto) : tNotF a ρ s = kNot (a ρ s) := by unfold tNotF; rcases a ρ s with ⟨_ | _, _⟩ | _ | _ <;> rfl
def kEIf (a b : EF) (ρ : En) : R Bool → R D
  | .ok true s => a ρ s
  | .ok false s => b ρ s
  | .ex e s => .ex e s
  | .no => .no
theorem kEIf_0 (a b : EF) (ρ : En) (s : Sto) : kEIf a b ρ (.ok true s) = a ρ s := rfl
theorem kEIf_1 (a b : EF) (ρ : En) (s : Sto) : kEIf a b ρ (.ok false s) = b ρ s := rfl
theorem kEIf_2 (a b : EF) (ρ : En) (e : Exn) (s : Sto) : kEIf a b ρ (.ex e s) = .ex e s := rfl
theorem eIf_k (c : TF) (a b : EF) (ρ : En) (s : Sto) : eIf c a b ρ s = kEIf a b ρ (c ρ s) := by unfold eIf; rcases c ρ s with ⟨_ | _, _⟩ | _ | _ <;> rfl
def kEAnd2 (b : EF) (ρ : En) (x : D) : R Bool → R D
  | .ok true s => b ρ s
  | .ok false s => .ok x s
  | .ex e s => .ex e s
  | .no => .no
theorem kEAnd2_0 (b : EF) (ρ : En) (x : D) (s : Sto) : kEAnd2 b ρ x (.ok true s) = b ρ s := rfl
theorem kEAnd2_1 (b : EF) (ρ : En) (x : D) (s : Sto) : kEAnd2 b ρ x (.ok false s) = .ok x s := rfl
theorem kEAnd2_2 (b : EF) (ρ : En) (x : D) (e : Exn) (s : Sto) : kEAnd2 b ρ x (.ex e s) = .ex e s := rfl
def kEAnd (b : EF) (ρ : En) : R D → R D
  | .ok x s => kEAnd2 b ρ x (truD x s)
  | .ex e s => .ex e s
  | .no => .no
theorem kEAnd_0 (b : EF) (ρ : En) (x : D) (s : Sto) : kEAnd b ρ (.ok x s) = kEAnd2 b ρ x (truD x s) := rfl
theorem kEAnd_1 (b : EF) (ρ : En) (e : Exn) (s : Sto) : kEAnd b ρ (.ex e s) = .ex e s := rfl
theorem eAnd_k (a b : EF) (ρ : En) (s : Sto) : eAnd a b ρ s = kEAnd b ρ (a ρ s) := by
  unfold eAnd
  cases a ρ s with
  | ok x s1 => show R.bind (truD x s1) _ = kEAnd2 b ρ x (truD x s1); rcases truD x s1 with ⟨_ | _, _⟩ | _ | _ <;> rfl
  | ex _ _ => rfl
  | no => rfl
def kEOr2 (b : EF) (ρ : En) (x : D) : R Bool → R D
  | .ok true s => .ok x s
  | .ok false s => b ρ s
  | .ex e s => .ex e s
  | .no => .no
theorem kEOr2_0 (b : EF) (ρ : En) (x : D) (s : Sto) : kEOr2 b ρ x (.ok true s) = .ok x s := rfl
theorem kEOr2_1 (b : EF) (ρ : En) (x : D) (s : Sto) : kEOr2 b ρ x (.ok false s) = b ρ s := rfl
theorem kEOr2_2 (b : EF) (ρ : En) (x : D) (e : Exn) (s : Sto) : kEOr2 b ρ x (.ex e s) = .ex e s := rfl
def kEOr (b : EF) (ρ : En) : R D → R D
  | .ok x s => kEOr2 b ρ x (truD x s)
  | .ex e s => .ex e s
  | .no => .no
theorem kEOr_0 (b : EF) (ρ : En) (x : D) (s : Sto) : kEOr b ρ (.ok x s) = kEOr2 b ρ x (truD x s) := rfl
theorem kEOr_1 (b : EF) (ρ : En) (e : Exn) (s : Sto) : kEOr b ρ (.ex e s) = .ex e s := rfl
theorem eOr_k (a b : EF) (ρ : En) (s : Sto) : eOr a b ρ s = kEOr b ρ (a ρ s) := by
  unfold eOr
  cases a ρ s with
  | ok x s1 => show R.bind (truD x s1) _ = kEOr2 b ρ x (truD x s1); rcases truD x s1 with ⟨_ | _, _⟩ | _ | _ <;> rfl
  | ex _ _ => rfl
  | no => rfl
def kENot2  : R Bool → R D
  | .ok true s => .ok (.bl false) s
  | .ok false s => .ok (.bl true) s
  | .ex e s => .ex e s
  | .no => .no
theorem kENot2_0  (s : Sto) : kENot2  (.ok true s) = .ok (.bl false) s := rfl
theorem kENot2_1  (s : Sto) : kENot2  (.ok false s) = .ok (.bl true) s := rfl
theorem kENot2_2  (e : Exn) (s : Sto) : kENot2  (.ex e s) = .ex e s := rfl
def kENot  : R D → R D
  | .ok x s => kENot2 (truD x s)
  | .ex e s => .ex e s
  | .no => .no
theorem kENot_0  (x : D) (s : Sto) : kENot  (.ok x s) = kENot2 (truD x s) := rfl
theorem kENot_1  (e : Exn) (s : Sto) : kENot  (.ex e s) = .ex e s := rfl
theorem eNot_k (a : EF) (ρ : En) (s : Sto) : eNot a ρ s = kENot (a ρ s) := by
  unfold eNot
  cases a ρ s with
  | ok x s1 => show R.bind (truD x s1) _ = kENot2 (truD x s1); rcases truD x s1 with ⟨_ | _, _⟩ | _ | _ <;> rfl
  | ex _ _ => rfl
  | no => rfl
def kSl3 (d : D) (lo : Option Int) : R (Option Int) → R D
  | .ok hi s => slD d lo hi s
  | .ex e s => .ex e s
  | .no => .no
theorem kSl3_0 (d : D) (lo : Option Int) (hi : Option Int) (s : Sto) : kSl3 d lo (.ok hi s) = slD d lo hi s := rfl
theorem kSl3_1 (d : D) (lo : Option Int) (e : Exn) (s : Sto) : kSl3 d lo (.ex e s) = .ex e s := rfl
def kSl2 (h : OF) (d : D) (ρ : En) : R (Option Int) → R D
  | .ok lo s => kSl3 d lo (h ρ s)
  | .ex e s => .ex e s
  | .no => .no
theorem kSl2_0 (h : OF) (d : D) (ρ : En) (lo : Option Int) (s : Sto) : kSl2 h d ρ (.ok lo s) = kSl3 d lo (h ρ s) := rfl
theorem kSl2_1 (h : OF) (d : D) (ρ : En) (e : Exn) (s : Sto) : kSl2 h d ρ (.ex e s) = .ex e s := rfl
def kSl (l h : OF) (ρ : En) : R D → R D
  | .ok d s => kSl2 h d ρ (l ρ s)
  | .ex e s => .ex e s
  | .no => .no
theorem kSl_0 (l h : OF) (ρ : En) (d : D) (s : Sto) : kSl l h ρ (.ok d s) = kSl2 h d ρ (l ρ s) := rfl
theorem kSl_1 (l h : OF) (ρ : En) (e : Exn) (s : Sto) : kSl l h ρ (.ex e s) = .ex e s := rfl
theorem eSl_k (a : EF) (l h : OF) (ρ : En) (s : Sto) : eSl a l h ρ s = kSl l h ρ (a ρ s) := by
  unfold eSl
  cases a ρ s with
  | ok d s1 =>
    show R.bind (l ρ s1) _ = kSl2 h d ρ (l ρ s1)
    cases l ρ s1 with
    | ok lo s2 => show R.bind (h ρ s2) _ = kSl3 d lo (h ρ s2); cases h ρ s2 <;> rfl
    | ex _ _ => rfl
    | no => rfl
  | ex _ _ => rfl
  | no => rfl
theorem oNone_k (ρ : En) (s : Sto) : oNone ρ s = .ok none s := rfl
def kOS  : R D → R (Option Int)
  | .ok (.int i) s => .ok (some i) s
  | .ex e s => .ex e s
  | _ => .no
theorem kOS_0 (i : Int) (s : Sto) : kOS  (.ok (.int i) s) = .ok (some i) s := rfl
theorem kOS_1 (e : Exn) (s : Sto) : kOS  (.ex e s) = .ex e s := rfl
theorem oSome_k (a : EF) (ρ : En) (s : Sto) : oSome a ρ s = kOS (a ρ s) := by
  unfold oSome
  cases a ρ s with
  | ok d s1 => cases d <;> rfl
  | ex _ _ => rfl
  | no => rfl
def kKw2 (F : List D → Sto → R D) (ds : List D) : R (List D) → R D
  | .ok es s => F (ds ++ es) s
  | .ex e s => .ex e s
  | .no => .no
theorem kKw2_0 (F : List D → Sto → R D) (ds : List D) (es : List D) (s : Sto) : kKw2 F ds (.ok es s) = F (ds ++ es) s := rfl
theorem kKw2_1 (F : List D → Sto → R D) (ds : List D) (e : Exn) (s : Sto) : kKw2 F ds (.ex e s) = .ex e s := rfl
def kKw (F : List D → Sto → R D) (ks : AF) (ρ : En) : R (List D) → R D
  | .ok ds s => kKw2 F ds (ks ρ s)
  | .ex e s => .ex e s
  | .no => .no
theorem kKw_0 (F : List D → Sto → R D) (ks : AF) (ρ : En) (ds : List D) (s : Sto) : kKw F ks ρ (.ok ds s) = kKw2 F ds (ks ρ s) := rfl
theorem kKw_1 (F : List D → Sto → R D) (ks : AF) (ρ : En) (e : Exn) (s : Sto) : kKw F ks ρ (.ex e s) = .ex e s := rfl
theorem eKw_k (F : List D → Sto → R D) (as ks : AF) (ρ : En) (s : Sto) : eKw F as ks ρ s = kKw F ks ρ (as ρ s) := by
  unfold eKw
  cases as ρ s with
  | ok ds s1 => show R.bind (ks ρ s1) _ = kKw2 F ds (ks ρ s1); cases ks ρ s1 <;> rfl
  | ex _ _ => rfl
  | no => rfl
theorem truD_bl (b : Bool) (s : Sto) : truD (.bl b) s = .ok b s := rfl
theorem blD_bl (b : Bool) (s : Sto) : blD (.bl b) s = .ok b s := rfl
theorem addD_i (i j : Int) (s : Sto) : addD (.int i) (.int j) s = .ok (.int (i + j)) s := rfl
theorem subD_i (i j : Int) (s : Sto) : subD (.int i) (.int j) s = .ok (.int (i - j)) s := rfl
theorem ltI_i (i j : Int) (s : Sto) : ltI (.int i) (.int j) s = .ok (.bl (decide (i < j))) s := rfl
theorem leI_i (i j : Int) (s : Sto) : leI (.int i) (.int j) s = .ok (.bl (decide (i ≤ j))) s := rfl
theorem gtI_i (i j : Int) (s : Sto) : gtI (.int i) (.int j) s = .ok (.bl (decide (j < i))) s := rfl
theorem geI_i (i j : Int) (s : Sto) : geI (.int i) (.int j) s = .ok (.bl (decide (j ≤ i))) s := rfl
theorem negD_i (i : Int) (s : Sto) : negD (.int i) s = .ok (.int (-i)) s := rfl
theorem intD_i (i : Int) (s : Sto) : intD [.int i] s = .ok (.int i) s := rfl
theorem intD_b (b : Bool) (s : Sto) : intD [.bl b] s = .ok (.int (if b then 1 else 0)) s := rfl
theorem max2D_i (i j : Int) (s : Sto) : max2D [.int i, .int j] s = .ok (.int (if j > i then j else i)) s := rfl
theorem min2D_i (i j : Int) (s : Sto) : min2D [.int i, .int j] s = .ok (.int (if j < i then j else i)) s := rfl
theorem gcdD_i (a b : Int) (s : Sto) : gcdD [.int a, .int b] s = .ok (.int (gI a b)) s := rfl
theorem lenD_t (xs : List D) (s : Sto) : lenD [.tup xs] s = .ok (.int xs.length) s := rfl
theorem lenD_f (xs : List D) (s : Sto) : lenD [.fls xs] s = .ok (.int xs.length) s := rfl
theorem isD_nn (s : Sto) : isD .non .non s = .ok (.bl true) s := rfl
theorem isD_in (i : Int) (s : Sto) : isD (.int i) .non s = .ok (.bl false) s := rfl
theorem isD_tn (xs : List D) (s : Sto) : isD (.tup xs) .non s = .ok (.bl false) s := rfl
theorem isD_bn (b : Bool) (s : Sto) : isD (.bl b) .non s = .ok (.bl false) s := rfl
theorem isD_sn (x : Str) (s : Sto) : isD (.str x) .non s = .ok (.bl false) s := rfl
theorem isD_ib (i : Int) (b : Bool) (s : Sto) : isD (.int i) (.bl b) s = .ok (.bl false) s := rfl
theorem isD_tb (xs : List D) (b : Bool) (s : Sto) : isD (.tup xs) (.bl b) s = .ok (.bl false) s := rfl
theorem isD_bb (b c : Bool) (s : Sto) : isD (.bl b) (.bl c) s = .ok (.bl (decide (b = c))) s := rfl
theorem isD_sb (x : Str) (b : Bool) (s : Sto) : isD (.str x) (.bl b) s = .ok (.bl false) s := rfl
theorem isD_nb (b : Bool) (s : Sto) : isD .non (.bl b) s = .ok (.bl false) s := rfl
theorem isnD_bb (b c : Bool) (s : Sto) : isnD (.bl b) (.bl c) s = .ok (.bl (!decide (b = c))) s := rfl
theorem isi_i (T : List Ty) (i : Int) (s : Sto) : isiD T (.int i) s = .ok (.bl (T.any (isTy .int))) s := rfl
theorem isi_b (T : List Ty) (b : Bool) (s : Sto) : isiD T (.bl b) s = .ok (.bl (T.any (isTy .bool))) s := rfl
theorem isi_t (T : List Ty) (xs : List D) (s : Sto) : isiD T (.tup xs) s = .ok (.bl (T.any (isTy .tuple))) s := rfl
theorem isi_s (T : List Ty) (x : Str) (s : Sto) : isiD T (.str x) s = .ok (.bl (T.any (isTy .str))) s := rfl
theorem isi_n (T : List Ty) (s : Sto) : isiD T .non s = .ok (.bl (T.any (isTy .none))) s := rfl
theorem isTy_ii : isTy .int .int = true := rfl
theorem isTy_bi : isTy .bool .int = true := rfl
theorem isTy_ib : isTy .int .bool = false := rfl
theorem isTy_bb : isTy .bool .bool = true := rfl
theorem isTy_tt : isTy .tuple .tuple = true := rfl
theorem isTy_it : isTy .int .tuple = false := rfl
theorem isTy_bt : isTy .bool .tuple = false := rfl
theorem isTy_ti : isTy .tuple .int = false := rfl
theorem isTy_is : isTy .int .str = false := rfl
theorem isTy_bs : isTy .bool .str = false := rfl
theorem isTy_ss : isTy .str .str = true := rfl
theorem isTy_st : isTy .str .tuple = false := rfl
theorem isTy_nt : isTy .none .tuple = false := rfl
theorem isTy_ns : isTy .none .str = false := rfl
theorem isTy_ni : isTy .none .int = false := rfl
theorem isTy_ts : isTy .tuple .str = false := rfl
theorem isTy_si : isTy .str .int = false := rfl
theorem isTy_tb : isTy .tuple .bool = false := rfl
theorem mulD_i (i j : Int) (s : Sto) (h : mulOk i j = true) : mulD (.int i) (.int j) s = .ok (.int (i * j)) s := by
  unfold mulD intDC
  dsimp only
  rw [if_pos h]
theorem modD_i (i j : Int) (s : Sto) (h : 0 < j) : modD (.int i) (.int j) s = .ok (.int (i % j)) s := if_pos (decide_eq_true h)
theorem fdivD_i (i j : Int) (s : Sto) (h : 0 < j) (h2 : j.natAbs < 2 ^ 9000) : fdivD (.int i) (.int j) s = .ok (.int (i / j)) s := by
  unfold fdivD intDC
  dsimp only
  rw [if_pos (by rw [decide_eq_true h, decide_eq_true h2]; rfl)]
theorem powD_i (i j : Int) (s : Sto) (h : (decide (0 ≤ j) && decide (j ≤ 1000000) && decide (i.natAbs < 2 ^ 64)) = true) : powD (.int i) (.int j) s = .ok (.int (i ^ j.toNat)) s := if_pos h
theorem tupD_k (xs : List D) (s : Sto) (h : xs.length ≤ 100000) : tupD xs s = .ok (.tup xs) s := if_pos h
theorem lstD_k (xs : List D) (s : Sto) (h : xs.length ≤ 100000) : lstD xs s = .ok (.loc s.length) (s ++ [.lst xs]) := if_pos h
theorem fnD_k (np nn : Nat) (F : SF) (ds : List D) (s : Sto) (h : ds.length = np) : fnD np nn F ds s = trimR s (endR (F (ds.map .d ++ List.replicate (nn - np) .un) s)) := if_pos h
theorem endR_rt (d : D) (s : Sto) : endR (.rt d s) = .ok d s := rfl
theorem endR_nx (ρ : En) (s : Sto) : endR (.nx ρ s) = .ok .non s := rfl
theorem endR_ex (e : Exn) (ρ : En) (s : Sto) : endR (.ex e ρ s) = .ex e s := rfl
/-! ### one statement behind another -/
theorem seq_nx {F G : SF} {ρ ρ' : En} {s s' : Sto} (h : F ρ s = .nx ρ' s') : sSeq F G ρ s = G ρ' s' := by unfold sSeq; rw [h]
theorem seq_rt {F G : SF} {ρ : En} {s s' : Sto} {d : D} (h : F ρ s = .rt d s') : sSeq F G ρ s = .rt d s' := by unfold sSeq; rw [h]
/-! ### equality -/
theorem eqD_ii (i j : Int) (s : Sto) : eqD (.int i) (.int j) s = .ok (.bl (i == j)) s := by
  unfold eqD
  simp only [D.py, D.flat, D.pyF, if_true]
  rw [show SeqAt.shaped (PyData.int i) = true from rfl, show SeqAt.shaped (PyData.int j) = true from rfl]
  rfl
theorem neD_ii (i j : Int) (s : Sto) : neD (.int i) (.int j) s = .ok (.bl (!(i == j))) s := by
  unfold neD
  simp only [D.py, D.flat, D.pyF, if_true]
  rw [show SeqAt.shaped (PyData.int i) = true from rfl, show SeqAt.shaped (PyData.int j) = true from rfl]
  rfl
theorem pys_ints : ∀ xs : List Int, pysF (xs.map D.int) = xs.map PyData.int
  | [] => rfl
  | x :: xs => by rw [List.map_cons, List.map_cons, pysF, pys_ints xs, D.pyF]
theorem flats_ints : ∀ xs : List Int, flats (xs.map D.int) = true
  | [] => rfl
  | x :: xs => by rw [List.map_cons, flats, flats_ints xs]; rfl
theorem lay_ints : ∀ xs : List Int, PyData.canLayAll0 (xs.map PyData.int) = true ∧ PyData.depthAll (xs.map PyData.int) = 0
  | [] => ⟨rfl, rfl⟩
  | x :: xs => by
    obtain ⟨h1, h2⟩ := lay_ints xs
    rw [List.map_cons]
    exact ⟨by rw [PyData.canLayAll0, h1]; rfl, by rw [PyData.depthAll, h2]; rfl⟩
theorem shaped_ints (xs : List Int) : SeqAt.shaped (.list (xs.map PyData.int)) = true := by
  obtain ⟨h1, h2⟩ := lay_ints xs
  unfold SeqAt.shaped
  rw [PyData.canLay0, PyData.depth, h1, h2]
  rfl
theorem neD_nil {xs : List Int} {s : Sto} {g n : Nat} (hg : s[g]? = some (.lst (xs.map .int))) (hn : s[n]? = some (.lst [])) : neD (.loc g) (.loc n) s = .ok (.bl (!xs.isEmpty)) s := by
  unfold neD
  simp only [D.py, hg, hn, flats_ints, if_true, pys_ints]
  have h0 : flats [] = true := rfl
  simp only [h0, if_true, shaped_ints, Bool.true_and]
  rw [show SeqAt.shaped (PyData.list (pysF [])) = true from rfl, if_pos rfl]
  cases xs <;> rfl
/-! ### reading and writing -/
theorem ixN_0 (n : Nat) : ixN (n + 1) 0 = some 0 := by simp [ixN]
theorem ixN_1 (n : Nat) : ixN (n + 1 + 1) 1 = some 1 := by simp [ixN]; omega
theorem ixN_nn {n : Nat} {i : Int} (h0 : 0 ≤ i) (h1 : i < n) : ixN n i = some i.toNat := by
  unfold ixN
  simp [h0, h1]
theorem ix_t0 (a : D) (l : List D) (s : Sto) : ixD (.tup (a :: l)) (.int 0) s = .ok a s := by simp [ixD, atI, ixN_0]
theorem ix_t1 (a b : D) (l : List D) (s : Sto) : ixD (.tup (a :: b :: l)) (.int 1) s = .ok b s := by simp [ixD, atI, ixN_1]
theorem ix_l {s : Sto} {n : Nat} {xs : List D} {i : Int} {d : D} (h : s[n]? = some (.lst xs)) (hd : atI xs i = some d) : ixD (.loc n) (.int i) s = .ok d s := by simp [ixD, h, hd]
theorem put_l {s : Sto} {n : Nat} {xs : List D} {i : Int} {d : D} (h : s[n]? = some (.lst xs)) (h0 : 0 ≤ i) (h1 : i < xs.length) : putD (.loc n) (.int i) d s = some (s.set n (.lst (xs.set i.toNat d))) := by
  unfold putD
  simp only [h]
  rw [ixN_nn h0 h1]
/-! ### the box that numbers are drawn from -/
structure Box (s : Sto) (b g n : Nat) : Prop where
  ne : b ≠ g
  bx : ∃ cur st cnt : Int, s[b]? = some (.lst [.int cur, .loc g, .int st, .int cnt]) ∧ st.natAbs < 2 ^ 32 ∧ 0 ≤ cnt ∧ cnt + n < 2 ^ 60
  gr : ∃ xs : List Int, s[g]? = some (.lst (xs.map .int))
/-- all other cells stand -/
structure Fr (b g : Nat) (s s' : Sto) : Prop where
  le : s.length ≤ s'.length
  at_ : ∀ m, m < s.length → m ≠ b → m ≠ g → s'[m]? = s[m]?
theorem Fr.refl {b g : Nat} {s : Sto} : Fr b g s s := ⟨Nat.le_refl _, fun _ _ _ _ => rfl⟩
theorem Fr.trans {b g : Nat} {s s1 s2 : Sto} (h : Fr b g s s1) (k : Fr b g s1 s2) : Fr b g s s2 := ⟨Nat.le_trans h.le k.le, fun m hm n1 n2 => (k.at_ m (Nat.lt_of_lt_of_le hm h.le) n1 n2).trans (h.at_ m hm n1 n2)⟩
theorem Fr.app {b g : Nat} {s : Sto} (l : Sto) : Fr b g s (s ++ l) := ⟨by simp, fun m hm _ _ => List.getElem?_append_left hm⟩
theorem Fr.setb {b g : Nat} {s : Sto} (c : Cell) : Fr b g s (s.set b c) := ⟨by simp, fun m hm n1 _ => List.getElem?_set_ne (Ne.symm n1)⟩
theorem Fr.setg {b g : Nat} {s : Sto} (c : Cell) : Fr b g s (s.set g c) := ⟨by simp, fun m hm _ n2 => List.getElem?_set_ne (Ne.symm n2)⟩
theorem Fr.lst {b g l : Nat} {s s' : Sto} (F : Fr b g s s') {c : Cell} (h : s[l]? = some c) (n1 : l ≠ b) (n2 : l ≠ g) : s'[l]? = some c := (F.at_ l (List.getElem?_eq_some_iff.mp h).1 n1 n2).trans h
theorem Box.lt {s : Sto} {b g n : Nat} (B : Box s b g n) : b < s.length ∧ g < s.length := by
  obtain ⟨_, _, _, h, _⟩ := B.bx
  obtain ⟨_, k⟩ := B.gr
  exact ⟨(List.getElem?_eq_some_iff.mp h).1, (List.getElem?_eq_some_iff.mp k).1⟩
theorem Box.cells {s s' : Sto} {b g n : Nat} (B : Box s b g n) (h1 : s'[b]? = s[b]?) (h2 : s'[g]? = s[g]?) : Box s' b g n := ⟨B.ne, by rw [h1]; exact B.bx, by rw [h2]; exact B.gr⟩
theorem Box.app {s : Sto} {b g n : Nat} (B : Box s b g n) (l : Sto) : Box (s ++ l) b g n := B.cells (List.getElem?_append_left B.lt.1) (List.getElem?_append_left B.lt.2)
theorem Box.mono {s : Sto} {b g m n : Nat} (B : Box s b g n) (h : m ≤ n) : Box s b g m := by
  obtain ⟨cur, st, cnt, h1, h2, h3, h4⟩ := B.bx
  exact ⟨B.ne, ⟨cur, st, cnt, h1, h2, h3, by omega⟩, B.gr⟩
/-- the end of a def that may forget what it made -/
theorem Box.trim {s s' : Sto} {b g n : Nat} {d : D} (hb : b < s.length) (hg : g < s.length) (B : Box s' b g n) (F : Fr b g s s') : ∃ s2, trimR s (.ok d s') = .ok d s2 ∧ Box s2 b g n ∧ Fr b g s s2 := by
  rcases trim_any d s s' with h | ⟨h, k⟩
  · exact ⟨s', h, B, F⟩
  · refine ⟨s, k, B.cells ?_ ?_, Fr.refl⟩
    · rw [← h, List.getElem?_take_of_lt hb]
    · rw [← h, List.getElem?_take_of_lt hg]
theorem atI_0 {α : Type} (a : α) (l : List α) : atI (a :: l) 0 = some a := by simp [atI, ixN_0]
theorem atI_1 {α : Type} (a b : α) (l : List α) : atI (a :: b :: l) 1 = some b := by simp [atI, ixN_1]
theorem atI_b {cur st cnt : Int} {g : Nat} : atI [D.int cur, .loc g, .int st, .int cnt] 0 = some (.int cur) ∧ atI [D.int cur, .loc g, .int st, .int cnt] 1 = some (.loc g) ∧ atI [D.int cur, .loc g, .int st, .int cnt] 2 = some (.int st) ∧ atI [D.int cur, .loc g, .int st, .int cnt] 3 = some (.int cnt) := ⟨rfl, rfl, rfl, rfl⟩
/-! ### loops -/
noncomputable def loopF' (S : Src) (g : GF) (F : SF) (ρ : En) (s : Sto) : RS := loopF S g F S.list ρ s
noncomputable def kFor (g : GF) (F : SF) (ρ : En) : R Src → RS
  | .ok S s => loopF' S g F ρ s
  | .ex e s => .ex e ρ s
  | .no => .no
theorem sFor_k (c : CF) (g : GF) (F : SF) (ρ : En) (s : Sto) : sFor c g F ρ s = kFor g F ρ (c ρ s) := by unfold sFor; cases c ρ s <;> rfl
theorem kFor_0 (g : GF) (F : SF) (ρ : En) (S : Src) (s : Sto) : kFor g F ρ (.ok S s) = loopF' S g F ρ s := rfl
def kSrc (op : D → Sto → R Src) : R D → R Src
  | .ok d s => op d s
  | .ex e s => .ex e s
  | .no => .no
theorem cSrc_k (op : D → Sto → R Src) (a : EF) (ρ : En) (s : Sto) : cSrc op a ρ s = kSrc op (a ρ s) := by unfold cSrc; cases a ρ s <;> rfl
theorem kSrc_0 (op : D → Sto → R Src) (d : D) (s : Sto) : kSrc op (.ok d s) = op d s := rfl
def kSrcA (op : List D → Sto → R Src) : R (List D) → R Src
  | .ok d s => op d s
  | .ex e s => .ex e s
  | .no => .no
theorem cApp_k (op : List D → Sto → R Src) (a : AF) (ρ : En) (s : Sto) : cApp op a ρ s = kSrcA op (a ρ s) := by unfold cApp; cases a ρ s <;> rfl
theorem kSrcA_0 (op : List D → Sto → R Src) (d : List D) (s : Sto) : kSrcA op (.ok d s) = op d s := rfl
theorem srcD_t (xs : List D) (s : Sto) : srcD (.tup xs) s = .ok (.items xs) s := rfl
theorem srcD_f (xs : List D) (s : Sto) : srcD (.fls xs) s = .ok (.items xs) s := rfl
theorem srcD_l {s : Sto} {n : Nat} {xs : List D} (h : s[n]? = some (.lst xs)) : srcD (.loc n) s = .ok (.cell n xs) s := by simp [srcD, h]
theorem rng1D_i {n : Int} (s : Sto) (h : n ≤ 100000) (h0 : 0 ≤ n) : rng1D [.int n] s = .ok (.items ((List.range n.toNat).map fun (i : Nat) => .int (i : Int))) s := if_pos ⟨h, by omega⟩
/-- a loop by what holds ahead of each turn -/
theorem loop_inv {S : Src} {g : GF} {F : SF} (I : List D → En → Sto → Prop) (hok : ∀ r ρ s, I r ρ s → S.ok s)
    (step : ∀ x r ρ s, I (x :: r) ρ s → ∃ ρ1, g x ρ = some ρ1 ∧ ∃ ρ2 s2, (F ρ1 s = .nx ρ2 s2 ∨ F ρ1 s = .ct ρ2 s2) ∧ I r ρ2 s2) : ∀ (xs : List D) (ρ : En) (s : Sto), I xs ρ s → ∃ ρ' s', loopF S g F xs ρ s = .nx ρ' s' ∧ I [] ρ' s'
  | [], ρ, s, h => ⟨ρ, s, by unfold loopF; rw [if_pos (hok _ _ _ h)], h⟩
  | x :: xs, ρ, s, h => by
    obtain ⟨ρ1, e1, ρ2, s2, e2, h2⟩ := step x xs ρ s h
    obtain ⟨ρ', s', e3, h3⟩ := loop_inv I hok step xs ρ2 s2 h2
    refine ⟨ρ', s', ?_, h3⟩
    unfold loopF
    rw [if_pos (hok _ _ _ h)]
    simp only [e1]
    rcases e2 with e2 | e2 <;> rw [e2] <;> exact e3
theorem for_inv {S : Src} {g : GF} {F : SF} (I : List D → En → Sto → Prop) (hok : ∀ r ρ s, I r ρ s → S.ok s)
    (step : ∀ x r ρ s, I (x :: r) ρ s → ∃ ρ1, g x ρ = some ρ1 ∧ ∃ ρ2 s2, (F ρ1 s = .nx ρ2 s2 ∨ F ρ1 s = .ct ρ2 s2) ∧ I r ρ2 s2) {ρ : En} {s : Sto} (h : I S.list ρ s) : ∃ ρ' s', loopF' S g F ρ s = .nx ρ' s' ∧ I [] ρ' s' := loop_inv I hok step _ ρ s h
/-- a comprehension whose items make nothing -/
theorem lcF_pure {l0 : List D} {g : GF} {t : TF} {e : EF} {vs : List Nat} {f : D → D} {ρ : En} {s1 : Sto} : ∀ (l acc : List D), acc.length + l.length ≤ 100000 → (∀ x ∈ l, ∃ ρ1, g x (wipeD ρ vs) = some ρ1 ∧ ∀ acc : List D, t ρ1 (s1 ++ [.lst acc]) = .ok true (s1 ++ [.lst acc]) ∧ e ρ1 (s1 ++ [.lst acc]) = .ok (f x) (s1 ++ [.lst acc])) →
    lcF (.items l0) g t e vs s1.length l ρ (s1 ++ [.lst acc]) = .ok () (s1 ++ [.lst (acc ++ l.map f)])
  | [], acc, _, _ => by unfold lcF; rw [if_pos (show (Src.items l0).ok _ from trivial)]; simp
  | x :: l, acc, hz, h => by
    obtain ⟨ρ1, e1, k⟩ := h x (by simp)
    obtain ⟨e2, e3⟩ := k acc
    unfold lcF
    rw [if_pos (show (Src.items l0).ok _ from trivial)]
    have ha : (s1 ++ [Cell.lst acc])[s1.length]? = some (.lst acc) := by simp
    have hs : (s1 ++ [Cell.lst acc]).set s1.length (.lst (acc ++ [f x])) = s1 ++ [.lst (acc ++ [f x])] := by simp
    simp only [e1, e2, e3, ha, hs]
    rw [if_pos (by simp at hz; omega)]
    rw [lcF_pure l (acc ++ [f x]) (by simp at hz ⊢; omega) fun y hy => h y (by simp [hy])]
    simp
theorem lc_pure {c : CF} {g : GF} {t : TF} {e : EF} {vs : List Nat} {f : D → D} {ρ : En} {s s1 : Sto} {l : List D} (hc : c ρ s = .ok (.items l) s1) (hz : l.length ≤ 100000)
    (h : ∀ x ∈ l, ∃ ρ1, g x (wipeD ρ vs) = some ρ1 ∧ ∀ acc : List D, t ρ1 (s1 ++ [.lst acc]) = .ok true (s1 ++ [.lst acc]) ∧ e ρ1 (s1 ++ [.lst acc]) = .ok (f x) (s1 ++ [.lst acc])) : eLc c g t e vs ρ s = .ok (.loc s1.length) (s1 ++ [.lst (l.map f)]) := by
  unfold eLc
  rw [hc]
  show R.bind (lcF (.items l) g t e vs s1.length l ρ (s1 ++ [.lst []])) _ = _
  rw [lcF_pure l [] (by simpa using hz) h]
  rfl
theorem bools_rep : ∀ {l : List D}, (∀ x ∈ l, x = .bl true) → bools l = some (l.map fun _ => true)
  | [], _ => rfl
  | x :: l, h => by
    rw [h x (by simp)]
    unfold bools
    rw [bools_rep fun y hy => h y (by simp [hy])]
    rfl
theorem allD_true {s : Sto} {n : Nat} {l : List D} (h : s[n]? = some (.lst l)) (hl : ∀ x ∈ l, x = .bl true) : allD [.loc n] s = .ok (.bl true) s := by
  unfold allD
  simp only [h, bools_rep hl]
  simp
/-- data that the law's sameness can walk -/
def gd : Nat → D → Bool
  | _, .non => true
  | _, .bl _ => true
  | _, .int _ => true
  | n + 1, .tup xs => decide (xs.length ≤ 100000) && xs.all (gd n)
  | _, _ => false
theorem loopW_0 (c : TF) (F : SF) (n : Nat) (ρ : En) (s : Sto) (h : c ρ s = .ok false s) : loopW c F (n + 1) ρ s = .nx ρ s := by
  unfold loopW; rw [h]; rfl
theorem loopW_1 {c : TF} {F : SF} {n : Nat} {ρ ρ2 : En} {s s2 : Sto} (h : c ρ s = .ok true s) (hF : F ρ s = .nx ρ2 s2) : loopW c F (n + 1) ρ s = loopW c F n ρ2 s2 := by
  rw [show loopW c F (n + 1) ρ s = (c ρ s).thenS ρ fun b s1 => if b then turnK (F ρ s1) (loopW c F n) else .nx ρ s1 from rfl, h]
  show (if true = true then turnK (F ρ s) (loopW c F n) else .nx ρ s) = _
  rw [if_pos rfl, hF]
  rfl

end DL

namespace K00
open PySem PySem.Spec PyProof.Rows L2 DL
def is_InvalidMoment : Str → Bool := isB ["InvalidMoment"]
def is_BellError : Str → Bool := isB ["InvalidMoment", "Backwards"]
def is_ValueError : Str → Bool := isB ["InvalidMoment", "Backwards"]
def is_Backwards : Str → Bool := isB ["Backwards"]
def is_InvalidSpan : Str → Bool := isB []
noncomputable def S_is_whole_0 : SF := (sRet (eAnd (eIsi [.int] (eVar 0)) (eNot (eIsi [.bool] (eVar 0)))))
noncomputable def B_is_whole : SF := S_is_whole_0
noncomputable def F_is_whole : List D → Sto → R D := fnD 1 1 B_is_whole
noncomputable def S_is_moment_0 : SF := (sIf (tOrF (tNotF (tTru truD (eIsi [.tuple] (eVar 0)))) (tTru blD (eBin neD (eApp lenD (aCons (eVar 0) aNil)) (eC (.int 2))))) (sRet (eC (.bl false))) sSkip)
noncomputable def S_is_moment_1 : SF := (sAsg (gT (gsC (gN 1) (gsC (gN 2) gsN))) (eVar 0))
noncomputable def S_is_moment_2 : SF := (sIf (tOrF (tNotF (tTru truD (eApp F_is_whole (aCons (eVar 1) aNil)))) (tNotF (tTru truD (eApp F_is_whole (aCons (eVar 2) aNil))))) (sRet (eC (.bl false))) sSkip)
noncomputable def S_is_moment_3 : SF := (sRet (eAnd (eBin geI (eVar 1) (eC (.int 0))) (eAnd (eBin geI (eVar 2) (eC (.int 1))) (eBin eqD (eApp gcdD (aCons (eVar 1) (aCons (eVar 2) aNil))) (eC (.int 1))))))
noncomputable def B_is_moment : SF := (sSeq S_is_moment_0
    (sSeq S_is_moment_1
    (sSeq S_is_moment_2
    S_is_moment_3)))
noncomputable def F_is_moment : List D → Sto → R D := fnD 1 3 B_is_moment
noncomputable def S_moment_0 : SF := (sIf (tOrF (tTru blD (eBin ltI (eVar 0) (eC (.int 0)))) (tTru blD (eBin ltI (eVar 1) (eC (.int 1))))) (sRaise "InvalidMoment" ["value"] (aCons (eApp tupD (aCons (eVar 0) (aCons (eVar 1) aNil))) aNil)) sSkip)
noncomputable def S_moment_1 : SF := (sSet 2 (eApp gcdD (aCons (eVar 0) (aCons (eVar 1) aNil))))
noncomputable def S_moment_2 : SF := (sRet (eApp tupD (aCons (eBin fdivD (eVar 0) (eVar 2)) (aCons (eBin fdivD (eVar 1) (eVar 2)) aNil))))
noncomputable def B_moment : SF := (sSeq S_moment_0
    (sSeq S_moment_1
    S_moment_2))
noncomputable def F_moment : List D → Sto → R D := fnD 2 3 B_moment
noncomputable def G_moment : List D → Sto → R D := (dflF 2 [] F_moment (dflF 1 [(.int 1)] F_moment noF))
noncomputable def K_moment_1_denominator : List D → Sto → R D := kwF 1 1 (fun us ws => (fun (us ds ws : List D) => us ++ (((ws.drop 0).take 1))) us [(.int 1)] ws) F_moment
noncomputable def L_added_0 : SF := (sSet 1 (eApp G_moment (aCons (eBin addD (eBin mulD (eBin ixD (eVar 1) (eC (.int 0))) (eVar 3)) (eBin mulD (eVar 2) (eBin ixD (eVar 1) (eC (.int 1))))) (aCons (eBin mulD (eBin ixD (eVar 1) (eC (.int 1))) (eVar 3)) aNil))))
noncomputable def S_added_0 : SF := (sSet 1 (eC (.tup [(.int 0), (.int 1)])))
noncomputable def S_added_1 : SF := (sFor (cSrc srcD (eVar 0)) (gT (gsC (gN 2) (gsC (gN 3) gsN))) L_added_0)
noncomputable def S_added_2 : SF := (sRet (eVar 1))
noncomputable def B_added : SF := (sSeq S_added_0
    (sSeq S_added_1
    S_added_2))
noncomputable def F_added : List D → Sto → R D := fnD 1 4 B_added
noncomputable def G_added : List D → Sto → R D := starF 0 F_added
noncomputable def S_since_0 : SF := (sSet 2 (eBin subD (eBin mulD (eBin ixD (eVar 1) (eC (.int 0))) (eBin ixD (eVar 0) (eC (.int 1)))) (eBin mulD (eBin ixD (eVar 0) (eC (.int 0))) (eBin ixD (eVar 1) (eC (.int 1))))))
noncomputable def S_since_1 : SF := (sIf (tTru blD (eBin ltI (eVar 2) (eC (.int 0)))) (sRaise "Backwards" ["first", "second"] (aCons (eVar 0) (aCons (eVar 1) aNil))) sSkip)
noncomputable def S_since_2 : SF := (sRet (eApp G_moment (aCons (eVar 2) (aCons (eBin mulD (eBin ixD (eVar 0) (eC (.int 1))) (eBin ixD (eVar 1) (eC (.int 1)))) aNil))))
noncomputable def B_since : SF := (sSeq S_since_0
    (sSeq S_since_1
    S_since_2))
noncomputable def F_since : List D → Sto → R D := fnD 2 3 B_since
noncomputable def S_compared_0 : SF := (sSet 2 (eBin subD (eBin mulD (eBin ixD (eVar 0) (eC (.int 0))) (eBin ixD (eVar 1) (eC (.int 1)))) (eBin mulD (eBin ixD (eVar 1) (eC (.int 0))) (eBin ixD (eVar 0) (eC (.int 1))))))
noncomputable def S_compared_1 : SF := (sIf (tTru blD (eBin ltI (eVar 2) (eC (.int 0)))) (sRet (eUn negD (eC (.int 1)))) sSkip)
noncomputable def S_compared_2 : SF := (sRet (eIf (tTru blD (eBin gtI (eVar 2) (eC (.int 0)))) (eC (.int 1)) (eC (.int 0))))
noncomputable def B_compared : SF := (sSeq S_compared_0
    (sSeq S_compared_1
    S_compared_2))
noncomputable def F_compared : List D → Sto → R D := fnD 2 3 B_compared
noncomputable def S_halfway_0 : SF := (sRet (eApp G_moment (aCons (eBin addD (eBin mulD (eBin ixD (eVar 0) (eC (.int 0))) (eBin ixD (eVar 1) (eC (.int 1)))) (eBin mulD (eBin ixD (eVar 1) (eC (.int 0))) (eBin ixD (eVar 0) (eC (.int 1))))) (aCons (eBin mulD (eBin mulD (eC (.int 2)) (eBin ixD (eVar 0) (eC (.int 1)))) (eBin ixD (eVar 1) (eC (.int 1)))) aNil))))
noncomputable def B_halfway : SF := S_halfway_0
noncomputable def F_halfway : List D → Sto → R D := fnD 2 2 B_halfway
noncomputable def S_whole_and_part_0 : SF := (sAsg (gT (gsC (gN 1) (gsC (gN 2) gsN))) (eVar 0))
noncomputable def S_whole_and_part_1 : SF := (sRet (eApp tupD (aCons (eBin fdivD (eVar 1) (eVar 2)) (aCons (eApp tupD (aCons (eBin modD (eVar 1) (eVar 2)) (aCons (eVar 2) aNil))) aNil))))
noncomputable def B_whole_and_part : SF := (sSeq S_whole_and_part_0
    S_whole_and_part_1)
noncomputable def F_whole_and_part : List D → Sto → R D := fnD 1 3 B_whole_and_part
noncomputable def L__law_box_0 : SF := (sIf (tTru blD (eBin geI (eVar 3) (eBin powD (eC (.int 10)) (eC (.int 18))))) (sExpr (eMt "list" appD (eVar 1) (aCons (eVar 3) aNil))) (sSet 2 (eBin modD (eApp intD (aCons (eBin addD (eBin addD (eBin mulD (eVar 2) (eC (.int 48271))) (eBin mulD (eVar 3) (eC (.int 69621)))) (eC (.int 7))) aNil)) (eC (.int 2147483647)))))
noncomputable def S__law_box_0 : SF := (sSet 1 (eApp lstD aNil))
noncomputable def S__law_box_1 : SF := (sSet 2 (eBin addD (eC (.int 101)) (eApp lenD (aCons (eSl (eVar 0) oNone (oSome (eC (.int 63)))) aNil))))
noncomputable def S__law_box_2 : SF := (sFor (cSrc srcD (eSl (eVar 0) oNone (oSome (eC (.int 63))))) (gN 3) L__law_box_0)
noncomputable def S__law_box_3 : SF := (sExpr (eMt "list" revD (eVar 1) aNil))
noncomputable def S__law_box_4 : SF := (sRet (eApp lstD (aCons (eC (.int 0)) (aCons (eVar 1) (aCons (eVar 2) (aCons (eC (.int 0)) aNil))))))
noncomputable def B__law_box : SF := (sSeq S__law_box_0
    (sSeq S__law_box_1
    (sSeq S__law_box_2
    (sSeq S__law_box_3
    S__law_box_4))))
noncomputable def F__law_box : List D → Sto → R D := fnD 1 4 B__law_box
noncomputable def S__law_draw_0 : SF := (sIf (tAndF (tTru blD (eBin ltI (eBin ixD (eVar 0) (eC (.int 0))) (eC (.int 1)))) (tTru blD (eBin neD (eBin ixD (eVar 0) (eC (.int 1))) (eApp lstD aNil)))) (sPut (eVar 0) (eC (.int 0)) (eMt "list" popD (eBin ixD (eVar 0) (eC (.int 1))) aNil)) sSkip)
noncomputable def S__law_draw_1 : SF := (sIf (tTru blD (eBin gtI (eBin ixD (eVar 0) (eC (.int 0))) (eC (.int 0)))) (sSeq (sSet 2 (eBin modD (eApp intD (aCons (eBin ixD (eVar 0) (eC (.int 0))) aNil)) (eVar 1)))
    (sSeq (sPut (eVar 0) (eC (.int 0)) (eBin fdivD (eBin ixD (eVar 0) (eC (.int 0))) (eVar 1)))
    (sRet (eVar 2)))) sSkip)
noncomputable def S__law_draw_2 : SF := (sPut (eVar 0) (eC (.int 3)) (eBin addD (eBin ixD (eVar 0) (eC (.int 3))) (eC (.int 1))))
noncomputable def S__law_draw_3 : SF := (sPut (eVar 0) (eC (.int 2)) (eBin modD (eApp intD (aCons (eBin addD (eBin addD (eBin mulD (eBin ixD (eVar 0) (eC (.int 2))) (eC (.int 48271))) (eBin mulD (eBin ixD (eVar 0) (eC (.int 3))) (eC (.int 69621)))) (eC (.int 5))) aNil)) (eC (.int 2147483647))))
noncomputable def S__law_draw_4 : SF := (sSet 3 (eBin modD (eApp intD (aCons (eBin addD (eBin addD (eBin mulD (eBin ixD (eVar 0) (eC (.int 2))) (eC (.int 39373))) (eBin mulD (eBin ixD (eVar 0) (eC (.int 3))) (eC (.int 40692)))) (eC (.int 3))) aNil)) (eC (.int 2147483399))))
noncomputable def S__law_draw_5 : SF := (sRet (eBin modD (eBin fdivD (eVar 3) (eC (.int 32))) (eVar 1)))
noncomputable def B__law_draw : SF := (sSeq S__law_draw_0
    (sSeq S__law_draw_1
    (sSeq S__law_draw_2
    (sSeq S__law_draw_3
    (sSeq S__law_draw_4
    S__law_draw_5)))))
noncomputable def F__law_draw : List D → Sto → R D := fnD 2 4 B__law_draw
noncomputable def S__law_pick_0 : SF := (sRet (eBin ixD (eVar 1) (eApp F__law_draw (aCons (eVar 0) (aCons (eApp lenD (aCons (eVar 1) aNil)) aNil)))))
noncomputable def B__law_pick : SF := S__law_pick_0
noncomputable def F__law_pick : List D → Sto → R D := fnD 2 2 B__law_pick
noncomputable def S__law_same_0 (fs : List D → Sto → R D) : SF := (sIf (tTru blD (eBin isD (eVar 1) (eC .non))) (sRet (eBin isD (eVar 0) (eC .non))) sSkip)
noncomputable def S__law_same_1 (fs : List D → Sto → R D) : SF := (sIf (tTru blD (eBin isD (eVar 1) (eC (.bl true)))) (sRet (eBin isD (eVar 0) (eC (.bl true)))) sSkip)
noncomputable def S__law_same_2 (fs : List D → Sto → R D) : SF := (sIf (tTru blD (eBin isD (eVar 1) (eC (.bl false)))) (sRet (eBin isD (eVar 0) (eC (.bl false)))) sSkip)
noncomputable def S__law_same_3 (fs : List D → Sto → R D) : SF := (sIf (tTru truD (eIsi [.tuple] (eVar 1))) (sSeq (sIf (tOrF (tNotF (tTru truD (eIsi [.tuple] (eVar 0)))) (tTru blD (eBin neD (eApp lenD (aCons (eVar 0) aNil)) (eApp lenD (aCons (eVar 1) aNil))))) (sRet (eC (.bl false))) sSkip)
    (sRet (eApp allD (aCons (eLc (cApp rng1D (aCons (eApp lenD (aCons (eVar 1) aNil)) aNil)) (gN 2) tYesF (eApp fs (aCons (eBin ixD (eVar 0) (eVar 2)) (aCons (eBin ixD (eVar 1) (eVar 2)) aNil))) [2]) aNil)))) sSkip)
noncomputable def S__law_same_4 (fs : List D → Sto → R D) : SF := (sIf (tTru truD (eIsi [.str] (eVar 1))) (sRet (eAnd (eIsi [.str] (eVar 0)) (eBin eqD (eVar 0) (eVar 1)))) sSkip)
noncomputable def S__law_same_5 (fs : List D → Sto → R D) : SF := (sRet (eAnd (eIsi [.int] (eVar 0)) (eAnd (eNot (eIsi [.bool] (eVar 0))) (eBin eqD (eVar 0) (eVar 1)))))
noncomputable def F__law_same : Nat → List D → Sto → R D
  | 0 => noF
  | n + 1 => fnD 2 3 ((sSeq (S__law_same_0 (F__law_same n))
    (sSeq (S__law_same_1 (F__law_same n))
    (sSeq (S__law_same_2 (F__law_same n))
    (sSeq (S__law_same_3 (F__law_same n))
    (sSeq (S__law_same_4 (F__law_same n))
    (S__law_same_5 (F__law_same n))))))))
noncomputable def L__law_gcd_0 : SF := (sPar 0 1 (aCons (eVar 1) (aCons (eBin modD (eApp intD (aCons (eVar 0) aNil)) (eVar 1)) aNil)))
noncomputable def S__law_gcd_0 : SF := (sWhile (fuelI 1) (tTru blD (eBin gtI (eVar 1) (eC (.int 0)))) L__law_gcd_0)
noncomputable def S__law_gcd_1 : SF := (sRet (eVar 0))
noncomputable def B__law_gcd : SF := (sSeq S__law_gcd_0
    S__law_gcd_1)
noncomputable def F__law_gcd : List D → Sto → R D := fnD 2 2 B__law_gcd
noncomputable def S__law_lowest_0 : SF := (sSet 2 (eApp F__law_gcd (aCons (eVar 0) (aCons (eVar 1) aNil))))
noncomputable def S__law_lowest_1 : SF := (sRet (eApp tupD (aCons (eBin fdivD (eVar 0) (eVar 2)) (aCons (eBin fdivD (eVar 1) (eVar 2)) aNil))))
noncomputable def B__law_lowest : SF := (sSeq S__law_lowest_0
    S__law_lowest_1)
noncomputable def F__law_lowest : List D → Sto → R D := fnD 2 3 B__law_lowest
noncomputable def S__law_wide_0 : SF := (sRet (eBin addD (eBin mulD (eApp F__law_draw (aCons (eVar 0) (aCons (eBin powD (eC (.int 10)) (eC (.int 6))) aNil))) (eBin powD (eC (.int 10)) (eC (.int 6)))) (eApp F__law_draw (aCons (eVar 0) (aCons (eBin powD (eC (.int 10)) (eC (.int 6))) aNil)))))
noncomputable def B__law_wide : SF := S__law_wide_0
noncomputable def F__law_wide : List D → Sto → R D := fnD 1 1 B__law_wide
noncomputable def S__law_fraction_0 : SF := (sSet 2 (eApp F__law_draw (aCons (eVar 0) (aCons (eC (.int 7)) aNil))))
noncomputable def S__law_fraction_1 : SF := (sIf (tTru blD (eBin eqD (eVar 2) (eC (.int 0)))) (sRet (eApp tupD (aCons (eC (.int 0)) (aCons (eC (.int 1)) aNil)))) sSkip)
noncomputable def S__law_fraction_2 : SF := (sIf (tTru blD (eBin eqD (eVar 2) (eC (.int 1)))) (sRet (eApp tupD (aCons (eApp F__law_draw (aCons (eVar 0) (aCons (eC (.int 100)) aNil))) (aCons (eC (.int 1)) aNil)))) sSkip)
noncomputable def S__law_fraction_3 : SF := (sIf (tOrF (tTru blD (eBin eqD (eVar 2) (eC (.int 2)))) (tTru blD (eBin eqD (eVar 2) (eC (.int 3))))) (sSeq (sSet 3 (eApp F__law_draw (aCons (eVar 0) (aCons (eC (.int 41)) aNil))))
    (sRet (eApp F__law_lowest (aCons (eVar 3) (aCons (eBin addD (eC (.int 1)) (eApp F__law_draw (aCons (eVar 0) (aCons (eC (.int 12)) aNil)))) aNil))))) sSkip)
noncomputable def S__law_fraction_4 : SF := (sIf (tOrF (tTru blD (eBin eqD (eVar 2) (eC (.int 4)))) (tTru blD (eBin eqD (eVar 1) (eApp lstD aNil)))) (sSeq (sSet 3 (eApp F__law_wide (aCons (eVar 0) aNil)))
    (sRet (eApp F__law_lowest (aCons (eVar 3) (aCons (eApp max2D (aCons (eC (.int 1)) (aCons (eApp F__law_wide (aCons (eVar 0) aNil)) aNil))) aNil))))) sSkip)
noncomputable def S__law_fraction_5 : SF := (sSet 4 (eApp F__law_pick (aCons (eVar 0) (aCons (eVar 1) aNil))))
noncomputable def S__law_fraction_6 : SF := (sIf (tOrF (tTru blD (eBin eqD (eVar 2) (eC (.int 5)))) (tTru blD (eBin gtI (eApp max2D (aCons (eBin ixD (eVar 4) (eC (.int 0))) (aCons (eBin ixD (eVar 4) (eC (.int 1))) aNil))) (eBin powD (eC (.int 10)) (eC (.int 6)))))) (sRet (eVar 4)) sSkip)
noncomputable def S__law_fraction_7 : SF := (sSet 5 (eBin addD (eC (.int 1)) (eApp F__law_draw (aCons (eVar 0) (aCons (eBin powD (eC (.int 10)) (eC (.int 5))) aNil)))))
noncomputable def S__law_fraction_8 : SF := (sSet 6 (eC (.int 1)))
noncomputable def S__law_fraction_9 : SF := (sIf (tAndF (tTru blD (eBin gtI (eBin ixD (eVar 4) (eC (.int 0))) (eC (.int 0)))) (tTru blD (eBin eqD (eApp F__law_draw (aCons (eVar 0) (aCons (eC (.int 2)) aNil))) (eC (.int 1))))) (sSet 6 (eUn negD (eC (.int 1)))) sSkip)
noncomputable def S__law_fraction_10 : SF := (sRet (eApp F__law_lowest (aCons (eBin addD (eBin mulD (eBin ixD (eVar 4) (eC (.int 0))) (eVar 5)) (eVar 6)) (aCons (eBin mulD (eBin ixD (eVar 4) (eC (.int 1))) (eVar 5)) aNil))))
noncomputable def B__law_fraction : SF := (sSeq S__law_fraction_0
    (sSeq S__law_fraction_1
    (sSeq S__law_fraction_2
    (sSeq S__law_fraction_3
    (sSeq S__law_fraction_4
    (sSeq S__law_fraction_5
    (sSeq S__law_fraction_6
    (sSeq S__law_fraction_7
    (sSeq S__law_fraction_8
    (sSeq S__law_fraction_9
    S__law_fraction_10))))))))))
noncomputable def F__law_fraction : List D → Sto → R D := fnD 2 7 B__law_fraction
noncomputable def S__law_made_0 : SF := (sTry 3 is_InvalidMoment (sSeq (sIf (tTru truD (eVar 2)) (sRet (eApp tupD (aCons (eC (.bl true)) (aCons (eApp G_moment (aCons (eVar 0) aNil)) aNil)))) sSkip)
    (sRet (eApp tupD (aCons (eC (.bl true)) (aCons (eApp G_moment (aCons (eVar 0) (aCons (eVar 1) aNil))) aNil)))))
    (sSeq (sSet 4 (eAnd (eIsX 3 is_BellError) (eIsX 3 is_ValueError)))
    (sSeq (sSet 4 (eAnd (eVar 4) (eAnd (eNot (eIsX 3 is_Backwards)) (eNot (eIsX 3 is_InvalidSpan)))))
    (sRet (eApp tupD (aCons (eC (.bl false)) (aCons (eApp tupD (aCons (eFld 3 "value") (aCons (eVar 4) aNil))) aNil)))))))
noncomputable def B__law_made : SF := S__law_made_0
noncomputable def F__law_made : List D → Sto → R D := fnD 3 5 B__law_made
noncomputable def S__law_rest_0 : SF := (sTry 2 is_Backwards (sRet (eApp tupD (aCons (eC (.bl true)) (aCons (eApp F_since (aCons (eVar 0) (aCons (eVar 1) aNil))) aNil))))
    (sSeq (sSet 3 (eAnd (eIsX 2 is_BellError) (eIsX 2 is_ValueError)))
    (sSeq (sSet 3 (eAnd (eVar 3) (eAnd (eNot (eIsX 2 is_InvalidMoment)) (eNot (eIsX 2 is_InvalidSpan)))))
    (sRet (eApp tupD (aCons (eC (.bl false)) (aCons (eApp tupD (aCons (eFld 2 "first") (aCons (eFld 2 "second") (aCons (eVar 3) aNil)))) aNil)))))))
noncomputable def B__law_rest : SF := S__law_rest_0
noncomputable def F__law_rest : List D → Sto → R D := fnD 2 4 B__law_rest
noncomputable def S__law_total_0 : SF := (sIf (tTru blD (eBin eqD (eApp lenD (aCons (eVar 0) aNil)) (eC (.int 0)))) (sRet (eApp G_added aNil)) sSkip)
noncomputable def S__law_total_1 : SF := (sIf (tTru blD (eBin eqD (eApp lenD (aCons (eVar 0) aNil)) (eC (.int 1)))) (sRet (eApp G_added (aCons (eBin ixD (eVar 0) (eC (.int 0))) aNil))) sSkip)
noncomputable def S__law_total_2 : SF := (sIf (tTru blD (eBin eqD (eApp lenD (aCons (eVar 0) aNil)) (eC (.int 2)))) (sRet (eApp G_added (aCons (eBin ixD (eVar 0) (eC (.int 0))) (aCons (eBin ixD (eVar 0) (eC (.int 1))) aNil)))) sSkip)
noncomputable def S__law_total_3 : SF := (sIf (tTru blD (eBin eqD (eApp lenD (aCons (eVar 0) aNil)) (eC (.int 3)))) (sRet (eApp G_added (aCons (eBin ixD (eVar 0) (eC (.int 0))) (aCons (eBin ixD (eVar 0) (eC (.int 1))) (aCons (eBin ixD (eVar 0) (eC (.int 2))) aNil))))) sSkip)
noncomputable def S__law_total_4 : SF := (sIf (tTru blD (eBin eqD (eApp lenD (aCons (eVar 0) aNil)) (eC (.int 4)))) (sRet (eApp G_added (aCons (eBin ixD (eVar 0) (eC (.int 0))) (aCons (eBin ixD (eVar 0) (eC (.int 1))) (aCons (eBin ixD (eVar 0) (eC (.int 2))) (aCons (eBin ixD (eVar 0) (eC (.int 3))) aNil)))))) sSkip)
noncomputable def S__law_total_5 : SF := (sRet (eApp G_added (aCons (eBin ixD (eVar 0) (eC (.int 0))) (aCons (eBin ixD (eVar 0) (eC (.int 1))) (aCons (eBin ixD (eVar 0) (eC (.int 2))) (aCons (eBin ixD (eVar 0) (eC (.int 3))) (aCons (eBin ixD (eVar 0) (eC (.int 4))) aNil)))))))
noncomputable def B__law_total : SF := (sSeq S__law_total_0
    (sSeq S__law_total_1
    (sSeq S__law_total_2
    (sSeq S__law_total_3
    (sSeq S__law_total_4
    S__law_total_5)))))
noncomputable def F__law_total : List D → Sto → R D := fnD 1 1 B__law_total
noncomputable def S__law_one_holds_0 : SF := (sSet 2 (eC (.int 1)))
noncomputable def S__law_one_holds_1 : SF := (sIf (tTru blD (eBin ltI (eApp max2D (aCons (eBin ixD (eVar 1) (eC (.int 0))) (aCons (eBin ixD (eVar 1) (eC (.int 1))) aNil))) (eBin powD (eC (.int 10)) (eC (.int 10))))) (sSet 2 (eC (.int 99))) sSkip)
noncomputable def S__law_one_holds_2 : SF := (sSet 3 (eBin addD (eC (.int 1)) (eApp F__law_draw (aCons (eVar 0) (aCons (eVar 2) aNil)))))
noncomputable def S__law_one_holds_3 : SF := (sSet 4 (eBin mulD (eBin ixD (eVar 1) (eC (.int 0))) (eVar 3)))
noncomputable def S__law_one_holds_4 : SF := (sSet 5 (eBin mulD (eBin ixD (eVar 1) (eC (.int 1))) (eVar 3)))
noncomputable def S__law_one_holds_5 : SF := (sIf (tNotF (tTru truD (eApp (F__law_same 8) (aCons (eApp F__law_made (aCons (eVar 4) (aCons (eVar 5) (aCons (eC (.bl false)) aNil)))) (aCons (eApp tupD (aCons (eC (.bl true)) (aCons (eVar 1) aNil))) aNil))))) (sRet (eC (.bl false))) sSkip)
noncomputable def S__law_one_holds_6 : SF := (sIf (tOrF (tNotF (tTru truD (eApp (F__law_same 8) (aCons (eApp F_is_moment (aCons (eApp tupD (aCons (eVar 4) (aCons (eVar 5) aNil))) aNil)) (aCons (eBin eqD (eVar 3) (eC (.int 1))) aNil))))) (tTru blD (eBin isnD (eApp F_is_moment (aCons (eVar 1) aNil)) (eC (.bl true))))) (sRet (eC (.bl false))) sSkip)
noncomputable def S__law_one_holds_7 : SF := (sIf (tNotF (tTru truD (eApp (F__law_same 8) (aCons (eApp F__law_made (aCons (eVar 4) (aCons (eC (.int 1)) (aCons (eC (.bl true)) aNil)))) (aCons (eApp tupD (aCons (eC (.bl true)) (aCons (eApp tupD (aCons (eVar 4) (aCons (eC (.int 1)) aNil))) aNil))) aNil))))) (sRet (eC (.bl false))) sSkip)
noncomputable def S__law_one_holds_8 : SF := (sSet 6 (eBin fdivD (eBin ixD (eVar 1) (eC (.int 0))) (eBin ixD (eVar 1) (eC (.int 1)))))
noncomputable def S__law_one_holds_9 : SF := (sSet 7 (eApp F__law_lowest (aCons (eBin subD (eBin ixD (eVar 1) (eC (.int 0))) (eBin mulD (eVar 6) (eBin ixD (eVar 1) (eC (.int 1))))) (aCons (eBin ixD (eVar 1) (eC (.int 1))) aNil))))
noncomputable def S__law_one_holds_10 : SF := (sRet (eApp (F__law_same 8) (aCons (eApp F_whole_and_part (aCons (eVar 1) aNil)) (aCons (eApp tupD (aCons (eVar 6) (aCons (eVar 7) aNil))) aNil))))
noncomputable def B__law_one_holds : SF := (sSeq S__law_one_holds_0
    (sSeq S__law_one_holds_1
    (sSeq S__law_one_holds_2
    (sSeq S__law_one_holds_3
    (sSeq S__law_one_holds_4
    (sSeq S__law_one_holds_5
    (sSeq S__law_one_holds_6
    (sSeq S__law_one_holds_7
    (sSeq S__law_one_holds_8
    (sSeq S__law_one_holds_9
    S__law_one_holds_10))))))))))
noncomputable def F__law_one_holds : List D → Sto → R D := fnD 2 8 B__law_one_holds
noncomputable def S__law_two_hold_0 : SF := (sSet 2 (eBin mulD (eBin ixD (eVar 0) (eC (.int 0))) (eBin ixD (eVar 1) (eC (.int 1)))))
noncomputable def S__law_two_hold_1 : SF := (sSet 3 (eBin mulD (eBin ixD (eVar 1) (eC (.int 0))) (eBin ixD (eVar 0) (eC (.int 1)))))
noncomputable def S__law_two_hold_2 : SF := (sSet 4 (eBin mulD (eBin ixD (eVar 0) (eC (.int 1))) (eBin ixD (eVar 1) (eC (.int 1)))))
noncomputable def S__law_two_hold_3 : SF := (sSet 5 (eBin subD (eApp intD (aCons (eBin gtI (eVar 2) (eVar 3)) aNil)) (eApp intD (aCons (eBin ltI (eVar 2) (eVar 3)) aNil))))
noncomputable def S__law_two_hold_4 : SF := (sIf (tNotF (tTru truD (eApp (F__law_same 8) (aCons (eApp F_compared (aCons (eVar 0) (aCons (eVar 1) aNil))) (aCons (eVar 5) aNil))))) (sRet (eC (.bl false))) sSkip)
noncomputable def S__law_two_hold_5 : SF := (sIf (tNotF (tTru truD (eApp (F__law_same 8) (aCons (eApp F_halfway (aCons (eVar 0) (aCons (eVar 1) aNil))) (aCons (eApp F__law_lowest (aCons (eBin addD (eVar 2) (eVar 3)) (aCons (eBin mulD (eC (.int 2)) (eVar 4)) aNil))) aNil))))) (sRet (eC (.bl false))) sSkip)
noncomputable def S__law_two_hold_6 : SF := (sSet 6 (eApp tupD (aCons (eC (.bl false)) (aCons (eApp tupD (aCons (eVar 0) (aCons (eVar 1) (aCons (eC (.bl true)) aNil)))) aNil))))
noncomputable def S__law_two_hold_7 : SF := (sIf (tTru blD (eBin leI (eVar 5) (eC (.int 0)))) (sSet 6 (eApp tupD (aCons (eC (.bl true)) (aCons (eApp F__law_lowest (aCons (eBin subD (eVar 3) (eVar 2)) (aCons (eVar 4) aNil))) aNil)))) sSkip)
noncomputable def S__law_two_hold_8 : SF := (sRet (eApp (F__law_same 8) (aCons (eApp F__law_rest (aCons (eVar 0) (aCons (eVar 1) aNil))) (aCons (eVar 6) aNil))))
noncomputable def B__law_two_hold : SF := (sSeq S__law_two_hold_0
    (sSeq S__law_two_hold_1
    (sSeq S__law_two_hold_2
    (sSeq S__law_two_hold_3
    (sSeq S__law_two_hold_4
    (sSeq S__law_two_hold_5
    (sSeq S__law_two_hold_6
    (sSeq S__law_two_hold_7
    S__law_two_hold_8))))))))
noncomputable def F__law_two_hold : List D → Sto → R D := fnD 2 7 B__law_two_hold
noncomputable def L__law_sum_holds_0 : SF := (sSet 1 (eApp F__law_lowest (aCons (eBin addD (eBin mulD (eBin ixD (eVar 1) (eC (.int 0))) (eBin ixD (eVar 2) (eC (.int 1)))) (eBin mulD (eBin ixD (eVar 2) (eC (.int 0))) (eBin ixD (eVar 1) (eC (.int 1))))) (aCons (eBin mulD (eBin ixD (eVar 1) (eC (.int 1))) (eBin ixD (eVar 2) (eC (.int 1)))) aNil))))
noncomputable def S__law_sum_holds_0 : SF := (sSet 1 (eApp tupD (aCons (eC (.int 0)) (aCons (eC (.int 1)) aNil))))
noncomputable def S__law_sum_holds_1 : SF := (sFor (cSrc srcD (eVar 0)) (gN 2) L__law_sum_holds_0)
noncomputable def S__law_sum_holds_2 : SF := (sRet (eApp (F__law_same 8) (aCons (eApp F__law_total (aCons (eVar 0) aNil)) (aCons (eVar 1) aNil))))
noncomputable def B__law_sum_holds : SF := (sSeq S__law_sum_holds_0
    (sSeq S__law_sum_holds_1
    S__law_sum_holds_2))
noncomputable def F__law_sum_holds : List D → Sto → R D := fnD 1 3 B__law_sum_holds
noncomputable def S__law_wrong_holds_0 : SF := (sSet 1 (eApp F__law_draw (aCons (eVar 0) (aCons (eC (.int 3)) aNil))))
noncomputable def S__law_wrong_holds_1 : SF := (sSet 2 (eApp F__law_draw (aCons (eVar 0) (aCons (eC (.int 100)) aNil))))
noncomputable def S__law_wrong_holds_2 : SF := (sSet 3 (eBin addD (eC (.int 1)) (eApp F__law_draw (aCons (eVar 0) (aCons (eC (.int 99)) aNil)))))
noncomputable def S__law_wrong_holds_3 : SF := (sIf (tTru blD (eBin neD (eVar 1) (eC (.int 0)))) (sSet 2 (eBin subD (eC (.int 0)) (eVar 3))) sSkip)
noncomputable def S__law_wrong_holds_4 : SF := (sIf (tTru blD (eBin neD (eVar 1) (eC (.int 1)))) (sSet 3 (eBin subD (eC (.int 0)) (eApp F__law_draw (aCons (eVar 0) (aCons (eC (.int 100)) aNil))))) sSkip)
noncomputable def S__law_wrong_holds_5 : SF := (sIf (tNotF (tTru truD (eApp (F__law_same 8) (aCons (eApp F__law_made (aCons (eVar 2) (aCons (eVar 3) (aCons (eC (.bl false)) aNil)))) (aCons (eApp tupD (aCons (eC (.bl false)) (aCons (eApp tupD (aCons (eApp tupD (aCons (eVar 2) (aCons (eVar 3) aNil))) (aCons (eC (.bl true)) aNil))) aNil))) aNil))))) (sRet (eC (.bl false))) sSkip)
noncomputable def S__law_wrong_holds_6 : SF := (sIf (tTru blD (eBin isnD (eApp F_is_moment (aCons (eApp tupD (aCons (eVar 2) (aCons (eVar 3) aNil))) aNil)) (eC (.bl false)))) (sRet (eC (.bl false))) sSkip)
noncomputable def S__law_wrong_holds_7 : SF := (sSet 2 (eBin subD (eBin subD (eC (.int 0)) (eC (.int 1))) (eApp F__law_draw (aCons (eVar 0) (aCons (eC (.int 99)) aNil)))))
noncomputable def S__law_wrong_holds_8 : SF := (sRet (eApp (F__law_same 8) (aCons (eApp F__law_made (aCons (eVar 2) (aCons (eC (.int 1)) (aCons (eC (.bl true)) aNil)))) (aCons (eApp tupD (aCons (eC (.bl false)) (aCons (eApp tupD (aCons (eApp tupD (aCons (eVar 2) (aCons (eC (.int 1)) aNil))) (aCons (eC (.bl true)) aNil))) aNil))) aNil))))
noncomputable def B__law_wrong_holds : SF := (sSeq S__law_wrong_holds_0
    (sSeq S__law_wrong_holds_1
    (sSeq S__law_wrong_holds_2
    (sSeq S__law_wrong_holds_3
    (sSeq S__law_wrong_holds_4
    (sSeq S__law_wrong_holds_5
    (sSeq S__law_wrong_holds_6
    (sSeq S__law_wrong_holds_7
    S__law_wrong_holds_8))))))))
noncomputable def F__law_wrong_holds : List D → Sto → R D := fnD 1 4 B__law_wrong_holds
noncomputable def L_law_0 : SF := (sExpr (eMt "list" appD (eVar 2) (aCons (eApp F__law_fraction (aCons (eVar 1) (aCons (eApp listD (aCons (eVar 2) aNil)) aNil))) aNil)))
noncomputable def L_law_1 : SF := (sSeq (sIf (tNotF (tTru truD (eApp F__law_one_holds (aCons (eVar 1) (aCons (eBin ixD (eVar 2) (eVar 3)) aNil))))) (sRet (eC (.bl false))) sSkip)
    (sSeq (sIf (tOrF (tNotF (tTru truD (eApp F__law_two_hold (aCons (eBin ixD (eVar 2) (eVar 3)) (aCons (eBin ixD (eVar 2) (eBin subD (eVar 3) (eC (.int 1)))) aNil))))) (tNotF (tTru truD (eApp F__law_two_hold (aCons (eBin ixD (eVar 2) (eBin subD (eVar 3) (eC (.int 1)))) (aCons (eBin ixD (eVar 2) (eVar 3)) aNil)))))) (sRet (eC (.bl false))) sSkip)
    (sIf (tOrF (tNotF (tTru truD (eApp F__law_two_hold (aCons (eBin ixD (eVar 2) (eVar 3)) (aCons (eBin ixD (eVar 2) (eVar 3)) aNil))))) (tNotF (tTru truD (eApp F__law_sum_holds (aCons (eSl (eVar 2) (oSome (eVar 3)) oNone) aNil))))) (sRet (eC (.bl false))) sSkip)))
noncomputable def S_law_0 : SF := (sSet 1 (eApp F__law_box (aCons (eVar 0) aNil)))
noncomputable def S_law_1 : SF := (sSet 2 (eApp lstD aNil))
noncomputable def S_law_2 : SF := (sFor (cApp rng1D (aCons (eBin addD (eC (.int 1)) (eApp F__law_draw (aCons (eVar 1) (aCons (eC (.int 5)) aNil)))) aNil)) (gN 3) L_law_0)
noncomputable def S_law_3 : SF := (sFor (cApp rng1D (aCons (eApp lenD (aCons (eVar 2) aNil)) aNil)) (gN 3) L_law_1)
noncomputable def S_law_4 : SF := (sIf (tOrF (tNotF (tTru truD (eApp F__law_sum_holds (aCons (eApp lstD aNil) aNil)))) (tNotF (tTru truD (eApp F__law_sum_holds (aCons (eUn revD' (eVar 2)) aNil))))) (sRet (eC (.bl false))) sSkip)
noncomputable def S_law_5 : SF := (sIf (tNotF (tTru truD (eApp (F__law_same 8) (aCons (eKw K_moment_1_denominator (aCons (eBin ixD (eBin ixD (eVar 2) (eC (.int 0))) (eC (.int 0))) aNil) (aCons (eBin ixD (eBin ixD (eVar 2) (eC (.int 0))) (eC (.int 1))) aNil)) (aCons (eBin ixD (eVar 2) (eC (.int 0))) aNil))))) (sRet (eC (.bl false))) sSkip)
noncomputable def S_law_6 : SF := (sRet (eApp F__law_wrong_holds (aCons (eVar 1) aNil)))
noncomputable def B_law : SF := (sSeq S_law_0
    (sSeq S_law_1
    (sSeq S_law_2
    (sSeq S_law_3
    (sSeq S_law_4
    (sSeq S_law_5
    S_law_6))))))
noncomputable def F_law : List D → Sto → R D := fnD 1 4 B_law
end K00

namespace K00
open PySem PySem.Spec PyProof.Rows L2 DL
/-! ### the box: a number drawn -/
theorem draw_0 {s : Sto} {b g n : Nat} {k : Int} (B : Box s b g n) : ∃ s1, S__law_draw_0 [.d (.loc b), .d (.int k), .un, .un] s = .nx [.d (.loc b), .d (.int k), .un, .un] s1 ∧ Box s1 b g n ∧ Fr b g s s1 := by
  obtain ⟨cur, st, cnt, hb, h1, h2, h3⟩ := B.bx
  obtain ⟨xs, hg⟩ := B.gr
  have i0 := ix_l hb atI_b.1
  have i1 := ix_l hb atI_b.2.1
  by_cases c1 : cur < 1
  · have l1 : (s ++ [Cell.lst []])[g]? = some (.lst (xs.map .int)) := by rw [List.getElem?_append_left B.lt.2]; exact hg
    have l2 : (s ++ [Cell.lst []])[s.length]? = some (.lst []) := by simp
    have l3 : (s ++ [Cell.lst []])[b]? = some (.lst [.int cur, .loc g, .int st, .int cnt]) := by rw [List.getElem?_append_left B.lt.1]; exact hb
    have hn := neD_nil l1 l2
    have B1 := B.app [Cell.lst []]
    rcases List.eq_nil_or_concat xs with e | ⟨ys, y, e⟩
    · refine ⟨s ++ [Cell.lst []], ?_, B1, Fr.app _⟩
      subst e
      have hn' : neD (.loc g) (.loc s.length) (s ++ [Cell.lst []]) = .ok (.bl false) (s ++ [Cell.lst []]) := hn
      simp only [S__law_draw_0, DL.kSeq_0, DL.kSeq_1, DL.kSeq_2, DL.kSeq_3, DL.kSeq_4, DL.sSeq_k, DL.sSkip_k, DL.sBreak_k, DL.sCont_k, DL.sRetN_k, DL.kExpr_0, DL.kExpr_1, DL.sExpr_k, DL.kRet_0, DL.kRet_1, DL.sRet_k, DL.kIf_0, DL.kIf_1, DL.kIf_2, DL.sIf_k, DL.kAsg2_0, DL.kAsg_0, DL.kAsg_1, DL.sAsg_k, DL.sSet_k, DL.gN_k, DL.gsN_k, DL.kG_0, DL.gsC_k, DL.gT_k, DL.kPut4_0, DL.kPut3_0, DL.kPut3_1, DL.kPut2_0, DL.kPut2_1, DL.kPut_0, DL.kPut_1, DL.sPut_k, DL.sPar_k, DL.kVar_0, DL.eVar_k, DL.eC_k, DL.kUn_0, DL.kUn_1, DL.eUn_k, DL.eIsi_k, DL.kBin2_0, DL.kBin2_1, DL.kBin_0, DL.kBin_1, DL.eBin_k, DL.aNil_k, DL.kCons2_0, DL.kCons2_1, DL.kCons_0, DL.kCons_1, DL.aCons_k, DL.kApp_0, DL.kApp_1, DL.eApp_k, DL.kMt2_0, DL.kMt2_1, DL.kMt1_0, DL.kMt_0, DL.kMt_1, DL.eMt_k, DL.kTru_0, DL.kTru_1, DL.tTru_k, DL.kAnd_0, DL.kAnd_1, DL.kAnd_2, DL.tAndF_k, DL.kOr_0, DL.kOr_1, DL.kOr_2, DL.tOrF_k, DL.kNot_0, DL.kNot_1, DL.kNot_2, DL.tNotF_k, DL.kEIf_0, DL.kEIf_1, DL.kEIf_2, DL.eIf_k, DL.kEAnd2_0, DL.kEAnd2_1, DL.kEAnd2_2, DL.kEAnd_0, DL.kEAnd_1, DL.eAnd_k, DL.kEOr2_0, DL.kEOr2_1, DL.kEOr2_2, DL.kEOr_0, DL.kEOr_1, DL.eOr_k, DL.kENot2_0, DL.kENot2_1, DL.kENot2_2, DL.kENot_0, DL.kENot_1, DL.eNot_k, DL.kSl3_0, DL.kSl3_1, DL.kSl2_0, DL.kSl2_1, DL.kSl_0, DL.kSl_1, DL.eSl_k, DL.oNone_k, DL.kOS_0, DL.kOS_1, DL.oSome_k, DL.kKw2_0, DL.kKw2_1, DL.kKw_0, DL.kKw_1, DL.eKw_k, DL.truD_bl, DL.blD_bl, DL.addD_i, DL.subD_i, DL.ltI_i, DL.leI_i, DL.gtI_i, DL.geI_i, DL.negD_i, DL.intD_i, DL.intD_b, DL.max2D_i, DL.min2D_i, DL.gcdD_i, DL.lenD_t, DL.lenD_f, DL.isD_nn, DL.isD_in, DL.isD_tn, DL.isD_bn, DL.isD_sn, DL.isD_ib, DL.isD_tb, DL.isD_bb, DL.isD_sb, DL.isD_nb, DL.isnD_bb, DL.isi_i, DL.isi_b, DL.isi_t, DL.isi_s, DL.isi_n, DL.isTy_ii, DL.isTy_bi, DL.isTy_ib, DL.isTy_bb, DL.isTy_tt, DL.isTy_it, DL.isTy_bt, DL.isTy_ti, DL.isTy_is, DL.isTy_bs, DL.isTy_ss, DL.isTy_st, DL.isTy_nt, DL.isTy_ns, DL.isTy_ni, DL.isTy_ts, DL.isTy_si, DL.isTy_tb, DL.mulD_i, DL.modD_i, DL.fdivD_i, DL.powD_i, DL.tupD_k, DL.lstD_k, DL.fnD_k, DL.endR_rt, DL.endR_nx, DL.endR_ex, List.map_cons, List.map_nil, List.replicate_succ, List.replicate_zero, List.cons_append, List.nil_append, List.getElem?_cons_zero, List.getElem?_cons_succ, List.set_cons_zero, List.set_cons_succ, Nat.reduceSub, Nat.reduceAdd, List.length_cons, List.length_nil, List.any_cons, List.any_nil, Bool.or_false, Bool.or_true, Bool.not_true, Bool.not_false, Nat.reduceLeDiff, Bool.false_or, Bool.true_or, DL.trim_eq, DL.sFor_k, DL.kFor_0, DL.cSrc_k, DL.kSrc_0, DL.cApp_k, DL.kSrcA_0, DL.srcD_t, DL.srcD_f, DL.eqD_ii, DL.neD_ii, DL.ix_t0, DL.ix_t1, i0, i1, c1, decide_true, hn']
    · subst e
      have hn' : neD (.loc g) (.loc s.length) (s ++ [Cell.lst []]) = .ok (.bl true) (s ++ [Cell.lst []]) := by
        rw [hn]; simp
      have j1 := ix_l l3 atI_b.2.1
      have ty : tyD "list" (.loc g) (s ++ [Cell.lst []]) = true := by simp [tyD, l1]
      have pp : popD (.loc g) [] (s ++ [Cell.lst []]) = .ok (.int y) ((s ++ [Cell.lst []]).set g (Cell.lst (ys.map D.int))) := by
        simp [popD, l1]
      have l4 : ((s ++ [Cell.lst []]).set g (Cell.lst (ys.map D.int)))[b]? = some (.lst [.int cur, .loc g, .int st, .int cnt]) := by
        rw [List.getElem?_set_ne (Ne.symm B.ne)]; exact l3
      have pt := put_l (d := .int y) l4 (Int.le_refl 0) (by simp)
      refine ⟨((s ++ [Cell.lst []]).set g (Cell.lst (ys.map D.int))).set b (.lst [.int y, .loc g, .int st, .int cnt]), ?_, ?_, (Fr.app _).trans ((Fr.setg _).trans (Fr.setb _))⟩
      · simp only [S__law_draw_0, DL.kSeq_0, DL.kSeq_1, DL.kSeq_2, DL.kSeq_3, DL.kSeq_4, DL.sSeq_k, DL.sSkip_k, DL.sBreak_k, DL.sCont_k, DL.sRetN_k, DL.kExpr_0, DL.kExpr_1, DL.sExpr_k, DL.kRet_0, DL.kRet_1, DL.sRet_k, DL.kIf_0, DL.kIf_1, DL.kIf_2, DL.sIf_k, DL.kAsg2_0, DL.kAsg_0, DL.kAsg_1, DL.sAsg_k, DL.sSet_k, DL.gN_k, DL.gsN_k, DL.kG_0, DL.gsC_k, DL.gT_k, DL.kPut4_0, DL.kPut3_0, DL.kPut3_1, DL.kPut2_0, DL.kPut2_1, DL.kPut_0, DL.kPut_1, DL.sPut_k, DL.sPar_k, DL.kVar_0, DL.eVar_k, DL.eC_k, DL.kUn_0, DL.kUn_1, DL.eUn_k, DL.eIsi_k, DL.kBin2_0, DL.kBin2_1, DL.kBin_0, DL.kBin_1, DL.eBin_k, DL.aNil_k, DL.kCons2_0, DL.kCons2_1, DL.kCons_0, DL.kCons_1, DL.aCons_k, DL.kApp_0, DL.kApp_1, DL.eApp_k, DL.kMt2_0, DL.kMt2_1, DL.kMt1_0, DL.kMt_0, DL.kMt_1, DL.eMt_k, DL.kTru_0, DL.kTru_1, DL.tTru_k, DL.kAnd_0, DL.kAnd_1, DL.kAnd_2, DL.tAndF_k, DL.kOr_0, DL.kOr_1, DL.kOr_2, DL.tOrF_k, DL.kNot_0, DL.kNot_1, DL.kNot_2, DL.tNotF_k, DL.kEIf_0, DL.kEIf_1, DL.kEIf_2, DL.eIf_k, DL.kEAnd2_0, DL.kEAnd2_1, DL.kEAnd2_2, DL.kEAnd_0, DL.kEAnd_1, DL.eAnd_k, DL.kEOr2_0, DL.kEOr2_1, DL.kEOr2_2, DL.kEOr_0, DL.kEOr_1, DL.eOr_k, DL.kENot2_0, DL.kENot2_1, DL.kENot2_2, DL.kENot_0, DL.kENot_1, DL.eNot_k, DL.kSl3_0, DL.kSl3_1, DL.kSl2_0, DL.kSl2_1, DL.kSl_0, DL.kSl_1, DL.eSl_k, DL.oNone_k, DL.kOS_0, DL.kOS_1, DL.oSome_k, DL.kKw2_0, DL.kKw2_1, DL.kKw_0, DL.kKw_1, DL.eKw_k, DL.truD_bl, DL.blD_bl, DL.addD_i, DL.subD_i, DL.ltI_i, DL.leI_i, DL.gtI_i, DL.geI_i, DL.negD_i, DL.intD_i, DL.intD_b, DL.max2D_i, DL.min2D_i, DL.gcdD_i, DL.lenD_t, DL.lenD_f, DL.isD_nn, DL.isD_in, DL.isD_tn, DL.isD_bn, DL.isD_sn, DL.isD_ib, DL.isD_tb, DL.isD_bb, DL.isD_sb, DL.isD_nb, DL.isnD_bb, DL.isi_i, DL.isi_b, DL.isi_t, DL.isi_s, DL.isi_n, DL.isTy_ii, DL.isTy_bi, DL.isTy_ib, DL.isTy_bb, DL.isTy_tt, DL.isTy_it, DL.isTy_bt, DL.isTy_ti, DL.isTy_is, DL.isTy_bs, DL.isTy_ss, DL.isTy_st, DL.isTy_nt, DL.isTy_ns, DL.isTy_ni, DL.isTy_ts, DL.isTy_si, DL.isTy_tb, DL.mulD_i, DL.modD_i, DL.fdivD_i, DL.powD_i, DL.tupD_k, DL.lstD_k, DL.fnD_k, DL.endR_rt, DL.endR_nx, DL.endR_ex, List.map_cons, List.map_nil, List.replicate_succ, List.replicate_zero, List.cons_append, List.nil_append, List.getElem?_cons_zero, List.getElem?_cons_succ, List.set_cons_zero, List.set_cons_succ, Nat.reduceSub, Nat.reduceAdd, List.length_cons, List.length_nil, List.any_cons, List.any_nil, Bool.or_false, Bool.or_true, Bool.not_true, Bool.not_false, Nat.reduceLeDiff, Bool.false_or, Bool.true_or, DL.trim_eq, DL.sFor_k, DL.kFor_0, DL.cSrc_k, DL.kSrc_0, DL.cApp_k, DL.kSrcA_0, DL.srcD_t, DL.srcD_f, DL.eqD_ii, DL.neD_ii, DL.ix_t0, DL.ix_t1, i0, i1, c1, decide_true, hn', j1, ty, pp, pt]
        rfl
      · have lb := B1.lt
        refine ⟨B.ne, ⟨y, st, cnt, ?_, h1, h2, h3⟩, ⟨ys, ?_⟩⟩
        · rw [List.getElem?_set_self (by simpa using lb.1)]
        · rw [List.getElem?_set_ne B.ne, List.getElem?_set_self lb.2]
  · refine ⟨s, ?_, B, Fr.refl⟩
    simp only [S__law_draw_0, DL.kSeq_0, DL.kSeq_1, DL.kSeq_2, DL.kSeq_3, DL.kSeq_4, DL.sSeq_k, DL.sSkip_k, DL.sBreak_k, DL.sCont_k, DL.sRetN_k, DL.kExpr_0, DL.kExpr_1, DL.sExpr_k, DL.kRet_0, DL.kRet_1, DL.sRet_k, DL.kIf_0, DL.kIf_1, DL.kIf_2, DL.sIf_k, DL.kAsg2_0, DL.kAsg_0, DL.kAsg_1, DL.sAsg_k, DL.sSet_k, DL.gN_k, DL.gsN_k, DL.kG_0, DL.gsC_k, DL.gT_k, DL.kPut4_0, DL.kPut3_0, DL.kPut3_1, DL.kPut2_0, DL.kPut2_1, DL.kPut_0, DL.kPut_1, DL.sPut_k, DL.sPar_k, DL.kVar_0, DL.eVar_k, DL.eC_k, DL.kUn_0, DL.kUn_1, DL.eUn_k, DL.eIsi_k, DL.kBin2_0, DL.kBin2_1, DL.kBin_0, DL.kBin_1, DL.eBin_k, DL.aNil_k, DL.kCons2_0, DL.kCons2_1, DL.kCons_0, DL.kCons_1, DL.aCons_k, DL.kApp_0, DL.kApp_1, DL.eApp_k, DL.kMt2_0, DL.kMt2_1, DL.kMt1_0, DL.kMt_0, DL.kMt_1, DL.eMt_k, DL.kTru_0, DL.kTru_1, DL.tTru_k, DL.kAnd_0, DL.kAnd_1, DL.kAnd_2, DL.tAndF_k, DL.kOr_0, DL.kOr_1, DL.kOr_2, DL.tOrF_k, DL.kNot_0, DL.kNot_1, DL.kNot_2, DL.tNotF_k, DL.kEIf_0, DL.kEIf_1, DL.kEIf_2, DL.eIf_k, DL.kEAnd2_0, DL.kEAnd2_1, DL.kEAnd2_2, DL.kEAnd_0, DL.kEAnd_1, DL.eAnd_k, DL.kEOr2_0, DL.kEOr2_1, DL.kEOr2_2, DL.kEOr_0, DL.kEOr_1, DL.eOr_k, DL.kENot2_0, DL.kENot2_1, DL.kENot2_2, DL.kENot_0, DL.kENot_1, DL.eNot_k, DL.kSl3_0, DL.kSl3_1, DL.kSl2_0, DL.kSl2_1, DL.kSl_0, DL.kSl_1, DL.eSl_k, DL.oNone_k, DL.kOS_0, DL.kOS_1, DL.oSome_k, DL.kKw2_0, DL.kKw2_1, DL.kKw_0, DL.kKw_1, DL.eKw_k, DL.truD_bl, DL.blD_bl, DL.addD_i, DL.subD_i, DL.ltI_i, DL.leI_i, DL.gtI_i, DL.geI_i, DL.negD_i, DL.intD_i, DL.intD_b, DL.max2D_i, DL.min2D_i, DL.gcdD_i, DL.lenD_t, DL.lenD_f, DL.isD_nn, DL.isD_in, DL.isD_tn, DL.isD_bn, DL.isD_sn, DL.isD_ib, DL.isD_tb, DL.isD_bb, DL.isD_sb, DL.isD_nb, DL.isnD_bb, DL.isi_i, DL.isi_b, DL.isi_t, DL.isi_s, DL.isi_n, DL.isTy_ii, DL.isTy_bi, DL.isTy_ib, DL.isTy_bb, DL.isTy_tt, DL.isTy_it, DL.isTy_bt, DL.isTy_ti, DL.isTy_is, DL.isTy_bs, DL.isTy_ss, DL.isTy_st, DL.isTy_nt, DL.isTy_ns, DL.isTy_ni, DL.isTy_ts, DL.isTy_si, DL.isTy_tb, DL.mulD_i, DL.modD_i, DL.fdivD_i, DL.powD_i, DL.tupD_k, DL.lstD_k, DL.fnD_k, DL.endR_rt, DL.endR_nx, DL.endR_ex, List.map_cons, List.map_nil, List.replicate_succ, List.replicate_zero, List.cons_append, List.nil_append, List.getElem?_cons_zero, List.getElem?_cons_succ, List.set_cons_zero, List.set_cons_succ, Nat.reduceSub, Nat.reduceAdd, List.length_cons, List.length_nil, List.any_cons, List.any_nil, Bool.or_false, Bool.or_true, Bool.not_true, Bool.not_false, Nat.reduceLeDiff, Bool.false_or, Bool.true_or, DL.trim_eq, DL.sFor_k, DL.kFor_0, DL.cSrc_k, DL.kSrc_0, DL.cApp_k, DL.kSrcA_0, DL.srcD_t, DL.srcD_f, DL.eqD_ii, DL.neD_ii, DL.ix_t0, DL.ix_t1, i0, c1, decide_false]
theorem draw_ok {s : Sto} {b g n : Nat} {k : Int} (B : Box s b g (n + 1)) (hk : 0 < k) (hz : k.natAbs < 2 ^ 9000) : ∃ r s', F__law_draw [.loc b, .int k] s = .ok (.int r) s' ∧ 0 ≤ r ∧ r < k ∧ Box s' b g n ∧ Fr b g s s' := by
  obtain ⟨s1, e1, B1, F1⟩ := draw_0 (k := k) B
  obtain ⟨cur, st, cnt, hb, h1, h2, h3⟩ := B1.bx
  obtain ⟨xs, hg⟩ := B1.gr
  have i0 := ix_l hb atI_b.1
  have lt := B1.lt
  by_cases c : 0 < cur
  · -- a digit of the great number
    have pt := put_l (d := .int (cur / k)) hb (Int.le_refl 0) (by simp)
    have B2 : Box (s1.set b (.lst [.int (cur / k), .loc g, .int st, .int cnt])) b g n := by
      refine ⟨B1.ne, ⟨cur / k, st, cnt, ?_, h1, h2, by omega⟩, ⟨xs, ?_⟩⟩
      · rw [List.getElem?_set_self lt.1]
      · rw [List.getElem?_set_ne B1.ne]; exact hg
    obtain ⟨s2, t2, B3, F3⟩ := Box.trim (d := .int (cur % k)) B.lt.1 B.lt.2 B2 (F1.trans (Fr.setb _))
    refine ⟨cur % k, s2, ?_, Int.emod_nonneg _ (by omega), Int.emod_lt_of_pos _ hk, B3, F3⟩
    rw [← t2]
    simp only [F__law_draw, B__law_draw, DL.kSeq_0, DL.kSeq_1, DL.kSeq_2, DL.kSeq_3, DL.kSeq_4, DL.sSeq_k, DL.sSkip_k, DL.sBreak_k, DL.sCont_k, DL.sRetN_k, DL.kExpr_0, DL.kExpr_1, DL.sExpr_k, DL.kRet_0, DL.kRet_1, DL.sRet_k, DL.kIf_0, DL.kIf_1, DL.kIf_2, DL.sIf_k, DL.kAsg2_0, DL.kAsg_0, DL.kAsg_1, DL.sAsg_k, DL.sSet_k, DL.gN_k, DL.gsN_k, DL.kG_0, DL.gsC_k, DL.gT_k, DL.kPut4_0, DL.kPut3_0, DL.kPut3_1, DL.kPut2_0, DL.kPut2_1, DL.kPut_0, DL.kPut_1, DL.sPut_k, DL.sPar_k, DL.kVar_0, DL.eVar_k, DL.eC_k, DL.kUn_0, DL.kUn_1, DL.eUn_k, DL.eIsi_k, DL.kBin2_0, DL.kBin2_1, DL.kBin_0, DL.kBin_1, DL.eBin_k, DL.aNil_k, DL.kCons2_0, DL.kCons2_1, DL.kCons_0, DL.kCons_1, DL.aCons_k, DL.kApp_0, DL.kApp_1, DL.eApp_k, DL.kMt2_0, DL.kMt2_1, DL.kMt1_0, DL.kMt_0, DL.kMt_1, DL.eMt_k, DL.kTru_0, DL.kTru_1, DL.tTru_k, DL.kAnd_0, DL.kAnd_1, DL.kAnd_2, DL.tAndF_k, DL.kOr_0, DL.kOr_1, DL.kOr_2, DL.tOrF_k, DL.kNot_0, DL.kNot_1, DL.kNot_2, DL.tNotF_k, DL.kEIf_0, DL.kEIf_1, DL.kEIf_2, DL.eIf_k, DL.kEAnd2_0, DL.kEAnd2_1, DL.kEAnd2_2, DL.kEAnd_0, DL.kEAnd_1, DL.eAnd_k, DL.kEOr2_0, DL.kEOr2_1, DL.kEOr2_2, DL.kEOr_0, DL.kEOr_1, DL.eOr_k, DL.kENot2_0, DL.kENot2_1, DL.kENot2_2, DL.kENot_0, DL.kENot_1, DL.eNot_k, DL.kSl3_0, DL.kSl3_1, DL.kSl2_0, DL.kSl2_1, DL.kSl_0, DL.kSl_1, DL.eSl_k, DL.oNone_k, DL.kOS_0, DL.kOS_1, DL.oSome_k, DL.kKw2_0, DL.kKw2_1, DL.kKw_0, DL.kKw_1, DL.eKw_k, DL.truD_bl, DL.blD_bl, DL.addD_i, DL.subD_i, DL.ltI_i, DL.leI_i, DL.gtI_i, DL.geI_i, DL.negD_i, DL.intD_i, DL.intD_b, DL.max2D_i, DL.min2D_i, DL.gcdD_i, DL.lenD_t, DL.lenD_f, DL.isD_nn, DL.isD_in, DL.isD_tn, DL.isD_bn, DL.isD_sn, DL.isD_ib, DL.isD_tb, DL.isD_bb, DL.isD_sb, DL.isD_nb, DL.isnD_bb, DL.isi_i, DL.isi_b, DL.isi_t, DL.isi_s, DL.isi_n, DL.isTy_ii, DL.isTy_bi, DL.isTy_ib, DL.isTy_bb, DL.isTy_tt, DL.isTy_it, DL.isTy_bt, DL.isTy_ti, DL.isTy_is, DL.isTy_bs, DL.isTy_ss, DL.isTy_st, DL.isTy_nt, DL.isTy_ns, DL.isTy_ni, DL.isTy_ts, DL.isTy_si, DL.isTy_tb, DL.mulD_i, DL.modD_i, DL.fdivD_i, DL.powD_i, DL.tupD_k, DL.lstD_k, DL.fnD_k, DL.endR_rt, DL.endR_nx, DL.endR_ex, List.map_cons, List.map_nil, List.replicate_succ, List.replicate_zero, List.cons_append, List.nil_append, List.getElem?_cons_zero, List.getElem?_cons_succ, List.set_cons_zero, List.set_cons_succ, Nat.reduceSub, Nat.reduceAdd, List.length_cons, List.length_nil, List.any_cons, List.any_nil, Bool.or_false, Bool.or_true, Bool.not_true, Bool.not_false, Nat.reduceLeDiff, Bool.false_or, Bool.true_or, DL.trim_eq, DL.sFor_k, DL.kFor_0, DL.cSrc_k, DL.kSrc_0, DL.cApp_k, DL.kSrcA_0, DL.srcD_t, DL.srcD_f, DL.eqD_ii, DL.neD_ii, DL.ix_t0, DL.ix_t1, e1]
    simp only [S__law_draw_1, DL.kSeq_0, DL.kSeq_1, DL.kSeq_2, DL.kSeq_3, DL.kSeq_4, DL.sSeq_k, DL.sSkip_k, DL.sBreak_k, DL.sCont_k, DL.sRetN_k, DL.kExpr_0, DL.kExpr_1, DL.sExpr_k, DL.kRet_0, DL.kRet_1, DL.sRet_k, DL.kIf_0, DL.kIf_1, DL.kIf_2, DL.sIf_k, DL.kAsg2_0, DL.kAsg_0, DL.kAsg_1, DL.sAsg_k, DL.sSet_k, DL.gN_k, DL.gsN_k, DL.kG_0, DL.gsC_k, DL.gT_k, DL.kPut4_0, DL.kPut3_0, DL.kPut3_1, DL.kPut2_0, DL.kPut2_1, DL.kPut_0, DL.kPut_1, DL.sPut_k, DL.sPar_k, DL.kVar_0, DL.eVar_k, DL.eC_k, DL.kUn_0, DL.kUn_1, DL.eUn_k, DL.eIsi_k, DL.kBin2_0, DL.kBin2_1, DL.kBin_0, DL.kBin_1, DL.eBin_k, DL.aNil_k, DL.kCons2_0, DL.kCons2_1, DL.kCons_0, DL.kCons_1, DL.aCons_k, DL.kApp_0, DL.kApp_1, DL.eApp_k, DL.kMt2_0, DL.kMt2_1, DL.kMt1_0, DL.kMt_0, DL.kMt_1, DL.eMt_k, DL.kTru_0, DL.kTru_1, DL.tTru_k, DL.kAnd_0, DL.kAnd_1, DL.kAnd_2, DL.tAndF_k, DL.kOr_0, DL.kOr_1, DL.kOr_2, DL.tOrF_k, DL.kNot_0, DL.kNot_1, DL.kNot_2, DL.tNotF_k, DL.kEIf_0, DL.kEIf_1, DL.kEIf_2, DL.eIf_k, DL.kEAnd2_0, DL.kEAnd2_1, DL.kEAnd2_2, DL.kEAnd_0, DL.kEAnd_1, DL.eAnd_k, DL.kEOr2_0, DL.kEOr2_1, DL.kEOr2_2, DL.kEOr_0, DL.kEOr_1, DL.eOr_k, DL.kENot2_0, DL.kENot2_1, DL.kENot2_2, DL.kENot_0, DL.kENot_1, DL.eNot_k, DL.kSl3_0, DL.kSl3_1, DL.kSl2_0, DL.kSl2_1, DL.kSl_0, DL.kSl_1, DL.eSl_k, DL.oNone_k, DL.kOS_0, DL.kOS_1, DL.oSome_k, DL.kKw2_0, DL.kKw2_1, DL.kKw_0, DL.kKw_1, DL.eKw_k, DL.truD_bl, DL.blD_bl, DL.addD_i, DL.subD_i, DL.ltI_i, DL.leI_i, DL.gtI_i, DL.geI_i, DL.negD_i, DL.intD_i, DL.intD_b, DL.max2D_i, DL.min2D_i, DL.gcdD_i, DL.lenD_t, DL.lenD_f, DL.isD_nn, DL.isD_in, DL.isD_tn, DL.isD_bn, DL.isD_sn, DL.isD_ib, DL.isD_tb, DL.isD_bb, DL.isD_sb, DL.isD_nb, DL.isnD_bb, DL.isi_i, DL.isi_b, DL.isi_t, DL.isi_s, DL.isi_n, DL.isTy_ii, DL.isTy_bi, DL.isTy_ib, DL.isTy_bb, DL.isTy_tt, DL.isTy_it, DL.isTy_bt, DL.isTy_ti, DL.isTy_is, DL.isTy_bs, DL.isTy_ss, DL.isTy_st, DL.isTy_nt, DL.isTy_ns, DL.isTy_ni, DL.isTy_ts, DL.isTy_si, DL.isTy_tb, DL.mulD_i, DL.modD_i, DL.fdivD_i, DL.powD_i, DL.tupD_k, DL.lstD_k, DL.fnD_k, DL.endR_rt, DL.endR_nx, DL.endR_ex, List.map_cons, List.map_nil, List.replicate_succ, List.replicate_zero, List.cons_append, List.nil_append, List.getElem?_cons_zero, List.getElem?_cons_succ, List.set_cons_zero, List.set_cons_succ, Nat.reduceSub, Nat.reduceAdd, List.length_cons, List.length_nil, List.any_cons, List.any_nil, Bool.or_false, Bool.or_true, Bool.not_true, Bool.not_false, Nat.reduceLeDiff, Bool.false_or, Bool.true_or, DL.trim_eq, DL.sFor_k, DL.kFor_0, DL.cSrc_k, DL.kSrc_0, DL.cApp_k, DL.kSrcA_0, DL.srcD_t, DL.srcD_f, DL.eqD_ii, DL.neD_ii, DL.ix_t0, DL.ix_t1, i0, c, decide_true, modD_i _ _ _ hk, fdivD_i _ _ _ hk hz, pt]
    rfl
  · -- the next state
    have q1 := ix_l hb atI_b.2.2.2
    have p1 := put_l (d := .int (cnt + 1)) hb (i := 3) (by decide) (by simp)
    have r2 : (s1.set b (.lst [.int cur, .loc g, .int st, .int (cnt + 1)]))[b]? = some (.lst [.int cur, .loc g, .int st, .int (cnt + 1)]) := List.getElem?_set_self lt.1
    have q2 := ix_l r2 atI_b.2.2.1
    have q3 := ix_l r2 atI_b.2.2.2
    obtain ⟨st2, hst2⟩ : ∃ st2, st2 = (st * 48271 + (cnt + 1) * 69621 + 5) % 2147483647 := ⟨_, rfl⟩
    have u1 : 0 ≤ st2 := by rw [hst2]; exact Int.emod_nonneg _ (by decide)
    have u2 : st2 < 2147483647 := by rw [hst2]; exact Int.emod_lt_of_pos _ (by decide)
    have p2 := put_l (d := .int st2) r2 (i := 2) (by decide) (by simp)
    have r3 : ((s1.set b (.lst [.int cur, .loc g, .int st, .int (cnt + 1)])).set b (.lst [.int cur, .loc g, .int st2, .int (cnt + 1)]))[b]? = some (.lst [.int cur, .loc g, .int st2, .int (cnt + 1)]) := List.getElem?_set_self (by simpa using lt.1)
    have q4 := ix_l r3 atI_b.2.2.1
    have q5 := ix_l r3 atI_b.2.2.2
    have m1 : mulOk st 48271 = true := mulOk_b (m := 32) (n := 17) h1 (by decide) (by decide) (by decide)
    have m2 : mulOk (cnt + 1) 69621 = true := mulOk_b (m := 61) (n := 17) (by omega) (by decide) (by decide) (by decide)
    have m3 : mulOk st2 39373 = true := mulOk_b (m := 32) (n := 17) (by omega) (by decide) (by decide) (by decide)
    have m4 : mulOk (cnt + 1) 40692 = true := mulOk_b (m := 61) (n := 17) (by omega) (by decide) (by decide) (by decide)
    obtain ⟨r, hr⟩ : ∃ r, r = (st2 * 39373 + (cnt + 1) * 40692 + 3) % 2147483399 / 32 % k := ⟨_, rfl⟩
    have B2 : Box ((s1.set b (.lst [.int cur, .loc g, .int st, .int (cnt + 1)])).set b (.lst [.int cur, .loc g, .int st2, .int (cnt + 1)])) b g n := by
      refine ⟨B1.ne, ⟨cur, st2, cnt + 1, r3, by omega, by omega, by omega⟩, ⟨xs, ?_⟩⟩
      rw [List.getElem?_set_ne B1.ne, List.getElem?_set_ne B1.ne]; exact hg
    obtain ⟨s2, t2, B3, F3⟩ := Box.trim (d := .int r) B.lt.1 B.lt.2 B2 (F1.trans ((Fr.setb _).trans (Fr.setb _)))
    refine ⟨r, s2, ?_, by rw [hr]; exact Int.emod_nonneg _ (by omega), by rw [hr]; exact Int.emod_lt_of_pos _ hk, B3, F3⟩
    rw [← t2]
    have d1 : (0 : Int) < 2147483647 := by decide
    have d2 : (0 : Int) < 2147483399 := by decide
    have d3 : (0 : Int) < 32 := by decide
    simp only [F__law_draw, B__law_draw, DL.kSeq_0, DL.kSeq_1, DL.kSeq_2, DL.kSeq_3, DL.kSeq_4, DL.sSeq_k, DL.sSkip_k, DL.sBreak_k, DL.sCont_k, DL.sRetN_k, DL.kExpr_0, DL.kExpr_1, DL.sExpr_k, DL.kRet_0, DL.kRet_1, DL.sRet_k, DL.kIf_0, DL.kIf_1, DL.kIf_2, DL.sIf_k, DL.kAsg2_0, DL.kAsg_0, DL.kAsg_1, DL.sAsg_k, DL.sSet_k, DL.gN_k, DL.gsN_k, DL.kG_0, DL.gsC_k, DL.gT_k, DL.kPut4_0, DL.kPut3_0, DL.kPut3_1, DL.kPut2_0, DL.kPut2_1, DL.kPut_0, DL.kPut_1, DL.sPut_k, DL.sPar_k, DL.kVar_0, DL.eVar_k, DL.eC_k, DL.kUn_0, DL.kUn_1, DL.eUn_k, DL.eIsi_k, DL.kBin2_0, DL.kBin2_1, DL.kBin_0, DL.kBin_1, DL.eBin_k, DL.aNil_k, DL.kCons2_0, DL.kCons2_1, DL.kCons_0, DL.kCons_1, DL.aCons_k, DL.kApp_0, DL.kApp_1, DL.eApp_k, DL.kMt2_0, DL.kMt2_1, DL.kMt1_0, DL.kMt_0, DL.kMt_1, DL.eMt_k, DL.kTru_0, DL.kTru_1, DL.tTru_k, DL.kAnd_0, DL.kAnd_1, DL.kAnd_2, DL.tAndF_k, DL.kOr_0, DL.kOr_1, DL.kOr_2, DL.tOrF_k, DL.kNot_0, DL.kNot_1, DL.kNot_2, DL.tNotF_k, DL.kEIf_0, DL.kEIf_1, DL.kEIf_2, DL.eIf_k, DL.kEAnd2_0, DL.kEAnd2_1, DL.kEAnd2_2, DL.kEAnd_0, DL.kEAnd_1, DL.eAnd_k, DL.kEOr2_0, DL.kEOr2_1, DL.kEOr2_2, DL.kEOr_0, DL.kEOr_1, DL.eOr_k, DL.kENot2_0, DL.kENot2_1, DL.kENot2_2, DL.kENot_0, DL.kENot_1, DL.eNot_k, DL.kSl3_0, DL.kSl3_1, DL.kSl2_0, DL.kSl2_1, DL.kSl_0, DL.kSl_1, DL.eSl_k, DL.oNone_k, DL.kOS_0, DL.kOS_1, DL.oSome_k, DL.kKw2_0, DL.kKw2_1, DL.kKw_0, DL.kKw_1, DL.eKw_k, DL.truD_bl, DL.blD_bl, DL.addD_i, DL.subD_i, DL.ltI_i, DL.leI_i, DL.gtI_i, DL.geI_i, DL.negD_i, DL.intD_i, DL.intD_b, DL.max2D_i, DL.min2D_i, DL.gcdD_i, DL.lenD_t, DL.lenD_f, DL.isD_nn, DL.isD_in, DL.isD_tn, DL.isD_bn, DL.isD_sn, DL.isD_ib, DL.isD_tb, DL.isD_bb, DL.isD_sb, DL.isD_nb, DL.isnD_bb, DL.isi_i, DL.isi_b, DL.isi_t, DL.isi_s, DL.isi_n, DL.isTy_ii, DL.isTy_bi, DL.isTy_ib, DL.isTy_bb, DL.isTy_tt, DL.isTy_it, DL.isTy_bt, DL.isTy_ti, DL.isTy_is, DL.isTy_bs, DL.isTy_ss, DL.isTy_st, DL.isTy_nt, DL.isTy_ns, DL.isTy_ni, DL.isTy_ts, DL.isTy_si, DL.isTy_tb, DL.mulD_i, DL.modD_i, DL.fdivD_i, DL.powD_i, DL.tupD_k, DL.lstD_k, DL.fnD_k, DL.endR_rt, DL.endR_nx, DL.endR_ex, List.map_cons, List.map_nil, List.replicate_succ, List.replicate_zero, List.cons_append, List.nil_append, List.getElem?_cons_zero, List.getElem?_cons_succ, List.set_cons_zero, List.set_cons_succ, Nat.reduceSub, Nat.reduceAdd, List.length_cons, List.length_nil, List.any_cons, List.any_nil, Bool.or_false, Bool.or_true, Bool.not_true, Bool.not_false, Nat.reduceLeDiff, Bool.false_or, Bool.true_or, DL.trim_eq, DL.sFor_k, DL.kFor_0, DL.cSrc_k, DL.kSrc_0, DL.cApp_k, DL.kSrcA_0, DL.srcD_t, DL.srcD_f, DL.eqD_ii, DL.neD_ii, DL.ix_t0, DL.ix_t1, e1]
    simp only [S__law_draw_1, DL.kSeq_0, DL.kSeq_1, DL.kSeq_2, DL.kSeq_3, DL.kSeq_4, DL.sSeq_k, DL.sSkip_k, DL.sBreak_k, DL.sCont_k, DL.sRetN_k, DL.kExpr_0, DL.kExpr_1, DL.sExpr_k, DL.kRet_0, DL.kRet_1, DL.sRet_k, DL.kIf_0, DL.kIf_1, DL.kIf_2, DL.sIf_k, DL.kAsg2_0, DL.kAsg_0, DL.kAsg_1, DL.sAsg_k, DL.sSet_k, DL.gN_k, DL.gsN_k, DL.kG_0, DL.gsC_k, DL.gT_k, DL.kPut4_0, DL.kPut3_0, DL.kPut3_1, DL.kPut2_0, DL.kPut2_1, DL.kPut_0, DL.kPut_1, DL.sPut_k, DL.sPar_k, DL.kVar_0, DL.eVar_k, DL.eC_k, DL.kUn_0, DL.kUn_1, DL.eUn_k, DL.eIsi_k, DL.kBin2_0, DL.kBin2_1, DL.kBin_0, DL.kBin_1, DL.eBin_k, DL.aNil_k, DL.kCons2_0, DL.kCons2_1, DL.kCons_0, DL.kCons_1, DL.aCons_k, DL.kApp_0, DL.kApp_1, DL.eApp_k, DL.kMt2_0, DL.kMt2_1, DL.kMt1_0, DL.kMt_0, DL.kMt_1, DL.eMt_k, DL.kTru_0, DL.kTru_1, DL.tTru_k, DL.kAnd_0, DL.kAnd_1, DL.kAnd_2, DL.tAndF_k, DL.kOr_0, DL.kOr_1, DL.kOr_2, DL.tOrF_k, DL.kNot_0, DL.kNot_1, DL.kNot_2, DL.tNotF_k, DL.kEIf_0, DL.kEIf_1, DL.kEIf_2, DL.eIf_k, DL.kEAnd2_0, DL.kEAnd2_1, DL.kEAnd2_2, DL.kEAnd_0, DL.kEAnd_1, DL.eAnd_k, DL.kEOr2_0, DL.kEOr2_1, DL.kEOr2_2, DL.kEOr_0, DL.kEOr_1, DL.eOr_k, DL.kENot2_0, DL.kENot2_1, DL.kENot2_2, DL.kENot_0, DL.kENot_1, DL.eNot_k, DL.kSl3_0, DL.kSl3_1, DL.kSl2_0, DL.kSl2_1, DL.kSl_0, DL.kSl_1, DL.eSl_k, DL.oNone_k, DL.kOS_0, DL.kOS_1, DL.oSome_k, DL.kKw2_0, DL.kKw2_1, DL.kKw_0, DL.kKw_1, DL.eKw_k, DL.truD_bl, DL.blD_bl, DL.addD_i, DL.subD_i, DL.ltI_i, DL.leI_i, DL.gtI_i, DL.geI_i, DL.negD_i, DL.intD_i, DL.intD_b, DL.max2D_i, DL.min2D_i, DL.gcdD_i, DL.lenD_t, DL.lenD_f, DL.isD_nn, DL.isD_in, DL.isD_tn, DL.isD_bn, DL.isD_sn, DL.isD_ib, DL.isD_tb, DL.isD_bb, DL.isD_sb, DL.isD_nb, DL.isnD_bb, DL.isi_i, DL.isi_b, DL.isi_t, DL.isi_s, DL.isi_n, DL.isTy_ii, DL.isTy_bi, DL.isTy_ib, DL.isTy_bb, DL.isTy_tt, DL.isTy_it, DL.isTy_bt, DL.isTy_ti, DL.isTy_is, DL.isTy_bs, DL.isTy_ss, DL.isTy_st, DL.isTy_nt, DL.isTy_ns, DL.isTy_ni, DL.isTy_ts, DL.isTy_si, DL.isTy_tb, DL.mulD_i, DL.modD_i, DL.fdivD_i, DL.powD_i, DL.tupD_k, DL.lstD_k, DL.fnD_k, DL.endR_rt, DL.endR_nx, DL.endR_ex, List.map_cons, List.map_nil, List.replicate_succ, List.replicate_zero, List.cons_append, List.nil_append, List.getElem?_cons_zero, List.getElem?_cons_succ, List.set_cons_zero, List.set_cons_succ, Nat.reduceSub, Nat.reduceAdd, List.length_cons, List.length_nil, List.any_cons, List.any_nil, Bool.or_false, Bool.or_true, Bool.not_true, Bool.not_false, Nat.reduceLeDiff, Bool.false_or, Bool.true_or, DL.trim_eq, DL.sFor_k, DL.kFor_0, DL.cSrc_k, DL.kSrc_0, DL.cApp_k, DL.kSrcA_0, DL.srcD_t, DL.srcD_f, DL.eqD_ii, DL.neD_ii, DL.ix_t0, DL.ix_t1, i0, c, decide_false]
    simp only [S__law_draw_2, DL.kSeq_0, DL.kSeq_1, DL.kSeq_2, DL.kSeq_3, DL.kSeq_4, DL.sSeq_k, DL.sSkip_k, DL.sBreak_k, DL.sCont_k, DL.sRetN_k, DL.kExpr_0, DL.kExpr_1, DL.sExpr_k, DL.kRet_0, DL.kRet_1, DL.sRet_k, DL.kIf_0, DL.kIf_1, DL.kIf_2, DL.sIf_k, DL.kAsg2_0, DL.kAsg_0, DL.kAsg_1, DL.sAsg_k, DL.sSet_k, DL.gN_k, DL.gsN_k, DL.kG_0, DL.gsC_k, DL.gT_k, DL.kPut4_0, DL.kPut3_0, DL.kPut3_1, DL.kPut2_0, DL.kPut2_1, DL.kPut_0, DL.kPut_1, DL.sPut_k, DL.sPar_k, DL.kVar_0, DL.eVar_k, DL.eC_k, DL.kUn_0, DL.kUn_1, DL.eUn_k, DL.eIsi_k, DL.kBin2_0, DL.kBin2_1, DL.kBin_0, DL.kBin_1, DL.eBin_k, DL.aNil_k, DL.kCons2_0, DL.kCons2_1, DL.kCons_0, DL.kCons_1, DL.aCons_k, DL.kApp_0, DL.kApp_1, DL.eApp_k, DL.kMt2_0, DL.kMt2_1, DL.kMt1_0, DL.kMt_0, DL.kMt_1, DL.eMt_k, DL.kTru_0, DL.kTru_1, DL.tTru_k, DL.kAnd_0, DL.kAnd_1, DL.kAnd_2, DL.tAndF_k, DL.kOr_0, DL.kOr_1, DL.kOr_2, DL.tOrF_k, DL.kNot_0, DL.kNot_1, DL.kNot_2, DL.tNotF_k, DL.kEIf_0, DL.kEIf_1, DL.kEIf_2, DL.eIf_k, DL.kEAnd2_0, DL.kEAnd2_1, DL.kEAnd2_2, DL.kEAnd_0, DL.kEAnd_1, DL.eAnd_k, DL.kEOr2_0, DL.kEOr2_1, DL.kEOr2_2, DL.kEOr_0, DL.kEOr_1, DL.eOr_k, DL.kENot2_0, DL.kENot2_1, DL.kENot2_2, DL.kENot_0, DL.kENot_1, DL.eNot_k, DL.kSl3_0, DL.kSl3_1, DL.kSl2_0, DL.kSl2_1, DL.kSl_0, DL.kSl_1, DL.eSl_k, DL.oNone_k, DL.kOS_0, DL.kOS_1, DL.oSome_k, DL.kKw2_0, DL.kKw2_1, DL.kKw_0, DL.kKw_1, DL.eKw_k, DL.truD_bl, DL.blD_bl, DL.addD_i, DL.subD_i, DL.ltI_i, DL.leI_i, DL.gtI_i, DL.geI_i, DL.negD_i, DL.intD_i, DL.intD_b, DL.max2D_i, DL.min2D_i, DL.gcdD_i, DL.lenD_t, DL.lenD_f, DL.isD_nn, DL.isD_in, DL.isD_tn, DL.isD_bn, DL.isD_sn, DL.isD_ib, DL.isD_tb, DL.isD_bb, DL.isD_sb, DL.isD_nb, DL.isnD_bb, DL.isi_i, DL.isi_b, DL.isi_t, DL.isi_s, DL.isi_n, DL.isTy_ii, DL.isTy_bi, DL.isTy_ib, DL.isTy_bb, DL.isTy_tt, DL.isTy_it, DL.isTy_bt, DL.isTy_ti, DL.isTy_is, DL.isTy_bs, DL.isTy_ss, DL.isTy_st, DL.isTy_nt, DL.isTy_ns, DL.isTy_ni, DL.isTy_ts, DL.isTy_si, DL.isTy_tb, DL.mulD_i, DL.modD_i, DL.fdivD_i, DL.powD_i, DL.tupD_k, DL.lstD_k, DL.fnD_k, DL.endR_rt, DL.endR_nx, DL.endR_ex, List.map_cons, List.map_nil, List.replicate_succ, List.replicate_zero, List.cons_append, List.nil_append, List.getElem?_cons_zero, List.getElem?_cons_succ, List.set_cons_zero, List.set_cons_succ, Nat.reduceSub, Nat.reduceAdd, List.length_cons, List.length_nil, List.any_cons, List.any_nil, Bool.or_false, Bool.or_true, Bool.not_true, Bool.not_false, Nat.reduceLeDiff, Bool.false_or, Bool.true_or, DL.trim_eq, DL.sFor_k, DL.kFor_0, DL.cSrc_k, DL.kSrc_0, DL.cApp_k, DL.kSrcA_0, DL.srcD_t, DL.srcD_f, DL.eqD_ii, DL.neD_ii, DL.ix_t0, DL.ix_t1, q1, p1]
    simp only [show Int.toNat 3 = 3 from rfl, DL.kSeq_0, DL.kSeq_1, DL.kSeq_2, DL.kSeq_3, DL.kSeq_4, DL.sSeq_k, DL.sSkip_k, DL.sBreak_k, DL.sCont_k, DL.sRetN_k, DL.kExpr_0, DL.kExpr_1, DL.sExpr_k, DL.kRet_0, DL.kRet_1, DL.sRet_k, DL.kIf_0, DL.kIf_1, DL.kIf_2, DL.sIf_k, DL.kAsg2_0, DL.kAsg_0, DL.kAsg_1, DL.sAsg_k, DL.sSet_k, DL.gN_k, DL.gsN_k, DL.kG_0, DL.gsC_k, DL.gT_k, DL.kPut4_0, DL.kPut3_0, DL.kPut3_1, DL.kPut2_0, DL.kPut2_1, DL.kPut_0, DL.kPut_1, DL.sPut_k, DL.sPar_k, DL.kVar_0, DL.eVar_k, DL.eC_k, DL.kUn_0, DL.kUn_1, DL.eUn_k, DL.eIsi_k, DL.kBin2_0, DL.kBin2_1, DL.kBin_0, DL.kBin_1, DL.eBin_k, DL.aNil_k, DL.kCons2_0, DL.kCons2_1, DL.kCons_0, DL.kCons_1, DL.aCons_k, DL.kApp_0, DL.kApp_1, DL.eApp_k, DL.kMt2_0, DL.kMt2_1, DL.kMt1_0, DL.kMt_0, DL.kMt_1, DL.eMt_k, DL.kTru_0, DL.kTru_1, DL.tTru_k, DL.kAnd_0, DL.kAnd_1, DL.kAnd_2, DL.tAndF_k, DL.kOr_0, DL.kOr_1, DL.kOr_2, DL.tOrF_k, DL.kNot_0, DL.kNot_1, DL.kNot_2, DL.tNotF_k, DL.kEIf_0, DL.kEIf_1, DL.kEIf_2, DL.eIf_k, DL.kEAnd2_0, DL.kEAnd2_1, DL.kEAnd2_2, DL.kEAnd_0, DL.kEAnd_1, DL.eAnd_k, DL.kEOr2_0, DL.kEOr2_1, DL.kEOr2_2, DL.kEOr_0, DL.kEOr_1, DL.eOr_k, DL.kENot2_0, DL.kENot2_1, DL.kENot2_2, DL.kENot_0, DL.kENot_1, DL.eNot_k, DL.kSl3_0, DL.kSl3_1, DL.kSl2_0, DL.kSl2_1, DL.kSl_0, DL.kSl_1, DL.eSl_k, DL.oNone_k, DL.kOS_0, DL.kOS_1, DL.oSome_k, DL.kKw2_0, DL.kKw2_1, DL.kKw_0, DL.kKw_1, DL.eKw_k, DL.truD_bl, DL.blD_bl, DL.addD_i, DL.subD_i, DL.ltI_i, DL.leI_i, DL.gtI_i, DL.geI_i, DL.negD_i, DL.intD_i, DL.intD_b, DL.max2D_i, DL.min2D_i, DL.gcdD_i, DL.lenD_t, DL.lenD_f, DL.isD_nn, DL.isD_in, DL.isD_tn, DL.isD_bn, DL.isD_sn, DL.isD_ib, DL.isD_tb, DL.isD_bb, DL.isD_sb, DL.isD_nb, DL.isnD_bb, DL.isi_i, DL.isi_b, DL.isi_t, DL.isi_s, DL.isi_n, DL.isTy_ii, DL.isTy_bi, DL.isTy_ib, DL.isTy_bb, DL.isTy_tt, DL.isTy_it, DL.isTy_bt, DL.isTy_ti, DL.isTy_is, DL.isTy_bs, DL.isTy_ss, DL.isTy_st, DL.isTy_nt, DL.isTy_ns, DL.isTy_ni, DL.isTy_ts, DL.isTy_si, DL.isTy_tb, DL.mulD_i, DL.modD_i, DL.fdivD_i, DL.powD_i, DL.tupD_k, DL.lstD_k, DL.fnD_k, DL.endR_rt, DL.endR_nx, DL.endR_ex, List.map_cons, List.map_nil, List.replicate_succ, List.replicate_zero, List.cons_append, List.nil_append, List.getElem?_cons_zero, List.getElem?_cons_succ, List.set_cons_zero, List.set_cons_succ, Nat.reduceSub, Nat.reduceAdd, List.length_cons, List.length_nil, List.any_cons, List.any_nil, Bool.or_false, Bool.or_true, Bool.not_true, Bool.not_false, Nat.reduceLeDiff, Bool.false_or, Bool.true_or, DL.trim_eq, DL.sFor_k, DL.kFor_0, DL.cSrc_k, DL.kSrc_0, DL.cApp_k, DL.kSrcA_0, DL.srcD_t, DL.srcD_f, DL.eqD_ii, DL.neD_ii, DL.ix_t0, DL.ix_t1]
    simp only [S__law_draw_3, DL.kSeq_0, DL.kSeq_1, DL.kSeq_2, DL.kSeq_3, DL.kSeq_4, DL.sSeq_k, DL.sSkip_k, DL.sBreak_k, DL.sCont_k, DL.sRetN_k, DL.kExpr_0, DL.kExpr_1, DL.sExpr_k, DL.kRet_0, DL.kRet_1, DL.sRet_k, DL.kIf_0, DL.kIf_1, DL.kIf_2, DL.sIf_k, DL.kAsg2_0, DL.kAsg_0, DL.kAsg_1, DL.sAsg_k, DL.sSet_k, DL.gN_k, DL.gsN_k, DL.kG_0, DL.gsC_k, DL.gT_k, DL.kPut4_0, DL.kPut3_0, DL.kPut3_1, DL.kPut2_0, DL.kPut2_1, DL.kPut_0, DL.kPut_1, DL.sPut_k, DL.sPar_k, DL.kVar_0, DL.eVar_k, DL.eC_k, DL.kUn_0, DL.kUn_1, DL.eUn_k, DL.eIsi_k, DL.kBin2_0, DL.kBin2_1, DL.kBin_0, DL.kBin_1, DL.eBin_k, DL.aNil_k, DL.kCons2_0, DL.kCons2_1, DL.kCons_0, DL.kCons_1, DL.aCons_k, DL.kApp_0, DL.kApp_1, DL.eApp_k, DL.kMt2_0, DL.kMt2_1, DL.kMt1_0, DL.kMt_0, DL.kMt_1, DL.eMt_k, DL.kTru_0, DL.kTru_1, DL.tTru_k, DL.kAnd_0, DL.kAnd_1, DL.kAnd_2, DL.tAndF_k, DL.kOr_0, DL.kOr_1, DL.kOr_2, DL.tOrF_k, DL.kNot_0, DL.kNot_1, DL.kNot_2, DL.tNotF_k, DL.kEIf_0, DL.kEIf_1, DL.kEIf_2, DL.eIf_k, DL.kEAnd2_0, DL.kEAnd2_1, DL.kEAnd2_2, DL.kEAnd_0, DL.kEAnd_1, DL.eAnd_k, DL.kEOr2_0, DL.kEOr2_1, DL.kEOr2_2, DL.kEOr_0, DL.kEOr_1, DL.eOr_k, DL.kENot2_0, DL.kENot2_1, DL.kENot2_2, DL.kENot_0, DL.kENot_1, DL.eNot_k, DL.kSl3_0, DL.kSl3_1, DL.kSl2_0, DL.kSl2_1, DL.kSl_0, DL.kSl_1, DL.eSl_k, DL.oNone_k, DL.kOS_0, DL.kOS_1, DL.oSome_k, DL.kKw2_0, DL.kKw2_1, DL.kKw_0, DL.kKw_1, DL.eKw_k, DL.truD_bl, DL.blD_bl, DL.addD_i, DL.subD_i, DL.ltI_i, DL.leI_i, DL.gtI_i, DL.geI_i, DL.negD_i, DL.intD_i, DL.intD_b, DL.max2D_i, DL.min2D_i, DL.gcdD_i, DL.lenD_t, DL.lenD_f, DL.isD_nn, DL.isD_in, DL.isD_tn, DL.isD_bn, DL.isD_sn, DL.isD_ib, DL.isD_tb, DL.isD_bb, DL.isD_sb, DL.isD_nb, DL.isnD_bb, DL.isi_i, DL.isi_b, DL.isi_t, DL.isi_s, DL.isi_n, DL.isTy_ii, DL.isTy_bi, DL.isTy_ib, DL.isTy_bb, DL.isTy_tt, DL.isTy_it, DL.isTy_bt, DL.isTy_ti, DL.isTy_is, DL.isTy_bs, DL.isTy_ss, DL.isTy_st, DL.isTy_nt, DL.isTy_ns, DL.isTy_ni, DL.isTy_ts, DL.isTy_si, DL.isTy_tb, DL.mulD_i, DL.modD_i, DL.fdivD_i, DL.powD_i, DL.tupD_k, DL.lstD_k, DL.fnD_k, DL.endR_rt, DL.endR_nx, DL.endR_ex, List.map_cons, List.map_nil, List.replicate_succ, List.replicate_zero, List.cons_append, List.nil_append, List.getElem?_cons_zero, List.getElem?_cons_succ, List.set_cons_zero, List.set_cons_succ, Nat.reduceSub, Nat.reduceAdd, List.length_cons, List.length_nil, List.any_cons, List.any_nil, Bool.or_false, Bool.or_true, Bool.not_true, Bool.not_false, Nat.reduceLeDiff, Bool.false_or, Bool.true_or, DL.trim_eq, DL.sFor_k, DL.kFor_0, DL.cSrc_k, DL.kSrc_0, DL.cApp_k, DL.kSrcA_0, DL.srcD_t, DL.srcD_f, DL.eqD_ii, DL.neD_ii, DL.ix_t0, DL.ix_t1, q2, q3, mulD_i _ _ _ m1, mulD_i _ _ _ m2, modD_i _ _ _ d1, ← hst2, p2]
    simp only [show Int.toNat 2 = 2 from rfl, DL.kSeq_0, DL.kSeq_1, DL.kSeq_2, DL.kSeq_3, DL.kSeq_4, DL.sSeq_k, DL.sSkip_k, DL.sBreak_k, DL.sCont_k, DL.sRetN_k, DL.kExpr_0, DL.kExpr_1, DL.sExpr_k, DL.kRet_0, DL.kRet_1, DL.sRet_k, DL.kIf_0, DL.kIf_1, DL.kIf_2, DL.sIf_k, DL.kAsg2_0, DL.kAsg_0, DL.kAsg_1, DL.sAsg_k, DL.sSet_k, DL.gN_k, DL.gsN_k, DL.kG_0, DL.gsC_k, DL.gT_k, DL.kPut4_0, DL.kPut3_0, DL.kPut3_1, DL.kPut2_0, DL.kPut2_1, DL.kPut_0, DL.kPut_1, DL.sPut_k, DL.sPar_k, DL.kVar_0, DL.eVar_k, DL.eC_k, DL.kUn_0, DL.kUn_1, DL.eUn_k, DL.eIsi_k, DL.kBin2_0, DL.kBin2_1, DL.kBin_0, DL.kBin_1, DL.eBin_k, DL.aNil_k, DL.kCons2_0, DL.kCons2_1, DL.kCons_0, DL.kCons_1, DL.aCons_k, DL.kApp_0, DL.kApp_1, DL.eApp_k, DL.kMt2_0, DL.kMt2_1, DL.kMt1_0, DL.kMt_0, DL.kMt_1, DL.eMt_k, DL.kTru_0, DL.kTru_1, DL.tTru_k, DL.kAnd_0, DL.kAnd_1, DL.kAnd_2, DL.tAndF_k, DL.kOr_0, DL.kOr_1, DL.kOr_2, DL.tOrF_k, DL.kNot_0, DL.kNot_1, DL.kNot_2, DL.tNotF_k, DL.kEIf_0, DL.kEIf_1, DL.kEIf_2, DL.eIf_k, DL.kEAnd2_0, DL.kEAnd2_1, DL.kEAnd2_2, DL.kEAnd_0, DL.kEAnd_1, DL.eAnd_k, DL.kEOr2_0, DL.kEOr2_1, DL.kEOr2_2, DL.kEOr_0, DL.kEOr_1, DL.eOr_k, DL.kENot2_0, DL.kENot2_1, DL.kENot2_2, DL.kENot_0, DL.kENot_1, DL.eNot_k, DL.kSl3_0, DL.kSl3_1, DL.kSl2_0, DL.kSl2_1, DL.kSl_0, DL.kSl_1, DL.eSl_k, DL.oNone_k, DL.kOS_0, DL.kOS_1, DL.oSome_k, DL.kKw2_0, DL.kKw2_1, DL.kKw_0, DL.kKw_1, DL.eKw_k, DL.truD_bl, DL.blD_bl, DL.addD_i, DL.subD_i, DL.ltI_i, DL.leI_i, DL.gtI_i, DL.geI_i, DL.negD_i, DL.intD_i, DL.intD_b, DL.max2D_i, DL.min2D_i, DL.gcdD_i, DL.lenD_t, DL.lenD_f, DL.isD_nn, DL.isD_in, DL.isD_tn, DL.isD_bn, DL.isD_sn, DL.isD_ib, DL.isD_tb, DL.isD_bb, DL.isD_sb, DL.isD_nb, DL.isnD_bb, DL.isi_i, DL.isi_b, DL.isi_t, DL.isi_s, DL.isi_n, DL.isTy_ii, DL.isTy_bi, DL.isTy_ib, DL.isTy_bb, DL.isTy_tt, DL.isTy_it, DL.isTy_bt, DL.isTy_ti, DL.isTy_is, DL.isTy_bs, DL.isTy_ss, DL.isTy_st, DL.isTy_nt, DL.isTy_ns, DL.isTy_ni, DL.isTy_ts, DL.isTy_si, DL.isTy_tb, DL.mulD_i, DL.modD_i, DL.fdivD_i, DL.powD_i, DL.tupD_k, DL.lstD_k, DL.fnD_k, DL.endR_rt, DL.endR_nx, DL.endR_ex, List.map_cons, List.map_nil, List.replicate_succ, List.replicate_zero, List.cons_append, List.nil_append, List.getElem?_cons_zero, List.getElem?_cons_succ, List.set_cons_zero, List.set_cons_succ, Nat.reduceSub, Nat.reduceAdd, List.length_cons, List.length_nil, List.any_cons, List.any_nil, Bool.or_false, Bool.or_true, Bool.not_true, Bool.not_false, Nat.reduceLeDiff, Bool.false_or, Bool.true_or, DL.trim_eq, DL.sFor_k, DL.kFor_0, DL.cSrc_k, DL.kSrc_0, DL.cApp_k, DL.kSrcA_0, DL.srcD_t, DL.srcD_f, DL.eqD_ii, DL.neD_ii, DL.ix_t0, DL.ix_t1]
    simp only [S__law_draw_4, DL.kSeq_0, DL.kSeq_1, DL.kSeq_2, DL.kSeq_3, DL.kSeq_4, DL.sSeq_k, DL.sSkip_k, DL.sBreak_k, DL.sCont_k, DL.sRetN_k, DL.kExpr_0, DL.kExpr_1, DL.sExpr_k, DL.kRet_0, DL.kRet_1, DL.sRet_k, DL.kIf_0, DL.kIf_1, DL.kIf_2, DL.sIf_k, DL.kAsg2_0, DL.kAsg_0, DL.kAsg_1, DL.sAsg_k, DL.sSet_k, DL.gN_k, DL.gsN_k, DL.kG_0, DL.gsC_k, DL.gT_k, DL.kPut4_0, DL.kPut3_0, DL.kPut3_1, DL.kPut2_0, DL.kPut2_1, DL.kPut_0, DL.kPut_1, DL.sPut_k, DL.sPar_k, DL.kVar_0, DL.eVar_k, DL.eC_k, DL.kUn_0, DL.kUn_1, DL.eUn_k, DL.eIsi_k, DL.kBin2_0, DL.kBin2_1, DL.kBin_0, DL.kBin_1, DL.eBin_k, DL.aNil_k, DL.kCons2_0, DL.kCons2_1, DL.kCons_0, DL.kCons_1, DL.aCons_k, DL.kApp_0, DL.kApp_1, DL.eApp_k, DL.kMt2_0, DL.kMt2_1, DL.kMt1_0, DL.kMt_0, DL.kMt_1, DL.eMt_k, DL.kTru_0, DL.kTru_1, DL.tTru_k, DL.kAnd_0, DL.kAnd_1, DL.kAnd_2, DL.tAndF_k, DL.kOr_0, DL.kOr_1, DL.kOr_2, DL.tOrF_k, DL.kNot_0, DL.kNot_1, DL.kNot_2, DL.tNotF_k, DL.kEIf_0, DL.kEIf_1, DL.kEIf_2, DL.eIf_k, DL.kEAnd2_0, DL.kEAnd2_1, DL.kEAnd2_2, DL.kEAnd_0, DL.kEAnd_1, DL.eAnd_k, DL.kEOr2_0, DL.kEOr2_1, DL.kEOr2_2, DL.kEOr_0, DL.kEOr_1, DL.eOr_k, DL.kENot2_0, DL.kENot2_1, DL.kENot2_2, DL.kENot_0, DL.kENot_1, DL.eNot_k, DL.kSl3_0, DL.kSl3_1, DL.kSl2_0, DL.kSl2_1, DL.kSl_0, DL.kSl_1, DL.eSl_k, DL.oNone_k, DL.kOS_0, DL.kOS_1, DL.oSome_k, DL.kKw2_0, DL.kKw2_1, DL.kKw_0, DL.kKw_1, DL.eKw_k, DL.truD_bl, DL.blD_bl, DL.addD_i, DL.subD_i, DL.ltI_i, DL.leI_i, DL.gtI_i, DL.geI_i, DL.negD_i, DL.intD_i, DL.intD_b, DL.max2D_i, DL.min2D_i, DL.gcdD_i, DL.lenD_t, DL.lenD_f, DL.isD_nn, DL.isD_in, DL.isD_tn, DL.isD_bn, DL.isD_sn, DL.isD_ib, DL.isD_tb, DL.isD_bb, DL.isD_sb, DL.isD_nb, DL.isnD_bb, DL.isi_i, DL.isi_b, DL.isi_t, DL.isi_s, DL.isi_n, DL.isTy_ii, DL.isTy_bi, DL.isTy_ib, DL.isTy_bb, DL.isTy_tt, DL.isTy_it, DL.isTy_bt, DL.isTy_ti, DL.isTy_is, DL.isTy_bs, DL.isTy_ss, DL.isTy_st, DL.isTy_nt, DL.isTy_ns, DL.isTy_ni, DL.isTy_ts, DL.isTy_si, DL.isTy_tb, DL.mulD_i, DL.modD_i, DL.fdivD_i, DL.powD_i, DL.tupD_k, DL.lstD_k, DL.fnD_k, DL.endR_rt, DL.endR_nx, DL.endR_ex, List.map_cons, List.map_nil, List.replicate_succ, List.replicate_zero, List.cons_append, List.nil_append, List.getElem?_cons_zero, List.getElem?_cons_succ, List.set_cons_zero, List.set_cons_succ, Nat.reduceSub, Nat.reduceAdd, List.length_cons, List.length_nil, List.any_cons, List.any_nil, Bool.or_false, Bool.or_true, Bool.not_true, Bool.not_false, Nat.reduceLeDiff, Bool.false_or, Bool.true_or, DL.trim_eq, DL.sFor_k, DL.kFor_0, DL.cSrc_k, DL.kSrc_0, DL.cApp_k, DL.kSrcA_0, DL.srcD_t, DL.srcD_f, DL.eqD_ii, DL.neD_ii, DL.ix_t0, DL.ix_t1, q4, q5, mulD_i _ _ _ m3, mulD_i _ _ _ m4, modD_i _ _ _ d2]
    simp only [S__law_draw_5, DL.kSeq_0, DL.kSeq_1, DL.kSeq_2, DL.kSeq_3, DL.kSeq_4, DL.sSeq_k, DL.sSkip_k, DL.sBreak_k, DL.sCont_k, DL.sRetN_k, DL.kExpr_0, DL.kExpr_1, DL.sExpr_k, DL.kRet_0, DL.kRet_1, DL.sRet_k, DL.kIf_0, DL.kIf_1, DL.kIf_2, DL.sIf_k, DL.kAsg2_0, DL.kAsg_0, DL.kAsg_1, DL.sAsg_k, DL.sSet_k, DL.gN_k, DL.gsN_k, DL.kG_0, DL.gsC_k, DL.gT_k, DL.kPut4_0, DL.kPut3_0, DL.kPut3_1, DL.kPut2_0, DL.kPut2_1, DL.kPut_0, DL.kPut_1, DL.sPut_k, DL.sPar_k, DL.kVar_0, DL.eVar_k, DL.eC_k, DL.kUn_0, DL.kUn_1, DL.eUn_k, DL.eIsi_k, DL.kBin2_0, DL.kBin2_1, DL.kBin_0, DL.kBin_1, DL.eBin_k, DL.aNil_k, DL.kCons2_0, DL.kCons2_1, DL.kCons_0, DL.kCons_1, DL.aCons_k, DL.kApp_0, DL.kApp_1, DL.eApp_k, DL.kMt2_0, DL.kMt2_1, DL.kMt1_0, DL.kMt_0, DL.kMt_1, DL.eMt_k, DL.kTru_0, DL.kTru_1, DL.tTru_k, DL.kAnd_0, DL.kAnd_1, DL.kAnd_2, DL.tAndF_k, DL.kOr_0, DL.kOr_1, DL.kOr_2, DL.tOrF_k, DL.kNot_0, DL.kNot_1, DL.kNot_2, DL.tNotF_k, DL.kEIf_0, DL.kEIf_1, DL.kEIf_2, DL.eIf_k, DL.kEAnd2_0, DL.kEAnd2_1, DL.kEAnd2_2, DL.kEAnd_0, DL.kEAnd_1, DL.eAnd_k, DL.kEOr2_0, DL.kEOr2_1, DL.kEOr2_2, DL.kEOr_0, DL.kEOr_1, DL.eOr_k, DL.kENot2_0, DL.kENot2_1, DL.kENot2_2, DL.kENot_0, DL.kENot_1, DL.eNot_k, DL.kSl3_0, DL.kSl3_1, DL.kSl2_0, DL.kSl2_1, DL.kSl_0, DL.kSl_1, DL.eSl_k, DL.oNone_k, DL.kOS_0, DL.kOS_1, DL.oSome_k, DL.kKw2_0, DL.kKw2_1, DL.kKw_0, DL.kKw_1, DL.eKw_k, DL.truD_bl, DL.blD_bl, DL.addD_i, DL.subD_i, DL.ltI_i, DL.leI_i, DL.gtI_i, DL.geI_i, DL.negD_i, DL.intD_i, DL.intD_b, DL.max2D_i, DL.min2D_i, DL.gcdD_i, DL.lenD_t, DL.lenD_f, DL.isD_nn, DL.isD_in, DL.isD_tn, DL.isD_bn, DL.isD_sn, DL.isD_ib, DL.isD_tb, DL.isD_bb, DL.isD_sb, DL.isD_nb, DL.isnD_bb, DL.isi_i, DL.isi_b, DL.isi_t, DL.isi_s, DL.isi_n, DL.isTy_ii, DL.isTy_bi, DL.isTy_ib, DL.isTy_bb, DL.isTy_tt, DL.isTy_it, DL.isTy_bt, DL.isTy_ti, DL.isTy_is, DL.isTy_bs, DL.isTy_ss, DL.isTy_st, DL.isTy_nt, DL.isTy_ns, DL.isTy_ni, DL.isTy_ts, DL.isTy_si, DL.isTy_tb, DL.mulD_i, DL.modD_i, DL.fdivD_i, DL.powD_i, DL.tupD_k, DL.lstD_k, DL.fnD_k, DL.endR_rt, DL.endR_nx, DL.endR_ex, List.map_cons, List.map_nil, List.replicate_succ, List.replicate_zero, List.cons_append, List.nil_append, List.getElem?_cons_zero, List.getElem?_cons_succ, List.set_cons_zero, List.set_cons_succ, Nat.reduceSub, Nat.reduceAdd, List.length_cons, List.length_nil, List.any_cons, List.any_nil, Bool.or_false, Bool.or_true, Bool.not_true, Bool.not_false, Nat.reduceLeDiff, Bool.false_or, Bool.true_or, DL.trim_eq, DL.sFor_k, DL.kFor_0, DL.cSrc_k, DL.kSrc_0, DL.cApp_k, DL.kSrcA_0, DL.srcD_t, DL.srcD_f, DL.eqD_ii, DL.neD_ii, DL.ix_t0, DL.ix_t1, modD_i _ _ _ hk, fdivD_i _ _ _ d3 (by decide), ← hr]

theorem pick_ok {s : Sto} {b g n l : Nat} {xs : List D} (B : Box s b g (n + 1)) (hl : s[l]? = some (.lst xs)) (n1 : l ≠ b) (n2 : l ≠ g) (hx : xs ≠ []) (hz : xs.length ≤ 100000) : ∃ d ∈ xs, ∃ s', F__law_pick [.loc b, .loc l] s = .ok d s' ∧ Box s' b g n ∧ Fr b g s s' := by
  have hlen : 0 < xs.length := List.length_pos_iff.mpr hx
  have h0 : lenD [.loc l] s = .ok (.int xs.length) s := by simp [lenD, hl]
  obtain ⟨r, s1, e1, r0, r1, B1, F1⟩ := draw_ok (k := xs.length) B (by omega) (by
    rw [Int.natAbs_natCast]
    exact Nat.lt_of_le_of_lt (Nat.le_trans hz (by decide)) (show 2 ^ 20 < 2 ^ 9000 from Nat.pow_lt_pow_right (by decide) (by decide)))
  have hl1 : s1[l]? = some (.lst xs) := (F1.at_ l (List.getElem?_eq_some_iff.mp hl).1 n1 n2).trans hl
  have hi : r.toNat < xs.length := by omega
  have ha : atI xs r = some xs[r.toNat] := by
    unfold atI
    rw [ixN_nn r0 r1]
    simp [hi]
  obtain ⟨s2, t2, B2, F2⟩ := Box.trim (d := xs[r.toNat]) B.lt.1 B.lt.2 B1 F1
  refine ⟨xs[r.toNat], List.getElem_mem hi, s2, ?_, B2, F2⟩
  rw [← t2]
  have i0 := ix_l hl1 ha
  simp only [F__law_pick, B__law_pick, S__law_pick_0, DL.kSeq_0, DL.kSeq_1, DL.kSeq_2, DL.kSeq_3, DL.kSeq_4, DL.sSeq_k, DL.sSkip_k, DL.sBreak_k, DL.sCont_k, DL.sRetN_k, DL.kExpr_0, DL.kExpr_1, DL.sExpr_k, DL.kRet_0, DL.kRet_1, DL.sRet_k, DL.kIf_0, DL.kIf_1, DL.kIf_2, DL.sIf_k, DL.kAsg2_0, DL.kAsg_0, DL.kAsg_1, DL.sAsg_k, DL.sSet_k, DL.gN_k, DL.gsN_k, DL.kG_0, DL.gsC_k, DL.gT_k, DL.kPut4_0, DL.kPut3_0, DL.kPut3_1, DL.kPut2_0, DL.kPut2_1, DL.kPut_0, DL.kPut_1, DL.sPut_k, DL.sPar_k, DL.kVar_0, DL.eVar_k, DL.eC_k, DL.kUn_0, DL.kUn_1, DL.eUn_k, DL.eIsi_k, DL.kBin2_0, DL.kBin2_1, DL.kBin_0, DL.kBin_1, DL.eBin_k, DL.aNil_k, DL.kCons2_0, DL.kCons2_1, DL.kCons_0, DL.kCons_1, DL.aCons_k, DL.kApp_0, DL.kApp_1, DL.eApp_k, DL.kMt2_0, DL.kMt2_1, DL.kMt1_0, DL.kMt_0, DL.kMt_1, DL.eMt_k, DL.kTru_0, DL.kTru_1, DL.tTru_k, DL.kAnd_0, DL.kAnd_1, DL.kAnd_2, DL.tAndF_k, DL.kOr_0, DL.kOr_1, DL.kOr_2, DL.tOrF_k, DL.kNot_0, DL.kNot_1, DL.kNot_2, DL.tNotF_k, DL.kEIf_0, DL.kEIf_1, DL.kEIf_2, DL.eIf_k, DL.kEAnd2_0, DL.kEAnd2_1, DL.kEAnd2_2, DL.kEAnd_0, DL.kEAnd_1, DL.eAnd_k, DL.kEOr2_0, DL.kEOr2_1, DL.kEOr2_2, DL.kEOr_0, DL.kEOr_1, DL.eOr_k, DL.kENot2_0, DL.kENot2_1, DL.kENot2_2, DL.kENot_0, DL.kENot_1, DL.eNot_k, DL.kSl3_0, DL.kSl3_1, DL.kSl2_0, DL.kSl2_1, DL.kSl_0, DL.kSl_1, DL.eSl_k, DL.oNone_k, DL.kOS_0, DL.kOS_1, DL.oSome_k, DL.kKw2_0, DL.kKw2_1, DL.kKw_0, DL.kKw_1, DL.eKw_k, DL.truD_bl, DL.blD_bl, DL.addD_i, DL.subD_i, DL.ltI_i, DL.leI_i, DL.gtI_i, DL.geI_i, DL.negD_i, DL.intD_i, DL.intD_b, DL.max2D_i, DL.min2D_i, DL.gcdD_i, DL.lenD_t, DL.lenD_f, DL.isD_nn, DL.isD_in, DL.isD_tn, DL.isD_bn, DL.isD_sn, DL.isD_ib, DL.isD_tb, DL.isD_bb, DL.isD_sb, DL.isD_nb, DL.isnD_bb, DL.isi_i, DL.isi_b, DL.isi_t, DL.isi_s, DL.isi_n, DL.isTy_ii, DL.isTy_bi, DL.isTy_ib, DL.isTy_bb, DL.isTy_tt, DL.isTy_it, DL.isTy_bt, DL.isTy_ti, DL.isTy_is, DL.isTy_bs, DL.isTy_ss, DL.isTy_st, DL.isTy_nt, DL.isTy_ns, DL.isTy_ni, DL.isTy_ts, DL.isTy_si, DL.isTy_tb, DL.mulD_i, DL.modD_i, DL.fdivD_i, DL.powD_i, DL.tupD_k, DL.lstD_k, DL.fnD_k, DL.endR_rt, DL.endR_nx, DL.endR_ex, List.map_cons, List.map_nil, List.replicate_succ, List.replicate_zero, List.cons_append, List.nil_append, List.getElem?_cons_zero, List.getElem?_cons_succ, List.set_cons_zero, List.set_cons_succ, Nat.reduceSub, Nat.reduceAdd, List.length_cons, List.length_nil, List.any_cons, List.any_nil, Bool.or_false, Bool.or_true, Bool.not_true, Bool.not_false, Nat.reduceLeDiff, Bool.false_or, Bool.true_or, DL.trim_eq, DL.sFor_k, DL.kFor_0, DL.cSrc_k, DL.kSrc_0, DL.cApp_k, DL.kSrcA_0, DL.srcD_t, DL.srcD_f, DL.eqD_ii, DL.neD_ii, DL.ix_t0, DL.ix_t1, h0, e1, i0]
theorem gcd_step {a b : Int} (ha : 0 ≤ a) (hb : 0 < b) : gI b (a % b) = gI a b := by
  unfold gI
  have e : (a % b).natAbs = a.natAbs % b.natAbs := by
    have h1 := Int.natAbs_emod_of_nonneg ha b
    exact h1
  rw [e, Nat.gcd_comm b.natAbs, ← Nat.gcd_rec, Nat.gcd_comm]
theorem gcd_loop : ∀ (n : Nat) (a b : Int) (s : Sto), 0 ≤ a → 0 ≤ b → b.toNat < n → loopW (tTru blD (eBin gtI (eVar 1) (eC (.int 0)))) L__law_gcd_0 n [.d (.int a), .d (.int b)] s = .nx [.d (.int (gI a b)), .d (.int 0)] s
  | 0, _, _, _, _, _, h => absurd h (by omega)
  | n + 1, a, b, s, ha, hb, h => by
    by_cases c : 0 < b
    · have e1 : tTru blD (eBin gtI (eVar 1) (eC (.int 0))) [.d (.int a), .d (.int b)] s = .ok true s := by simp only [DL.kSeq_0, DL.kSeq_1, DL.kSeq_2, DL.kSeq_3, DL.kSeq_4, DL.sSeq_k, DL.sSkip_k, DL.sBreak_k, DL.sCont_k, DL.sRetN_k, DL.kExpr_0, DL.kExpr_1, DL.sExpr_k, DL.kRet_0, DL.kRet_1, DL.sRet_k, DL.kIf_0, DL.kIf_1, DL.kIf_2, DL.sIf_k, DL.kAsg2_0, DL.kAsg_0, DL.kAsg_1, DL.sAsg_k, DL.sSet_k, DL.gN_k, DL.gsN_k, DL.kG_0, DL.gsC_k, DL.gT_k, DL.kPut4_0, DL.kPut3_0, DL.kPut3_1, DL.kPut2_0, DL.kPut2_1, DL.kPut_0, DL.kPut_1, DL.sPut_k, DL.sPar_k, DL.kVar_0, DL.eVar_k, DL.eC_k, DL.kUn_0, DL.kUn_1, DL.eUn_k, DL.eIsi_k, DL.kBin2_0, DL.kBin2_1, DL.kBin_0, DL.kBin_1, DL.eBin_k, DL.aNil_k, DL.kCons2_0, DL.kCons2_1, DL.kCons_0, DL.kCons_1, DL.aCons_k, DL.kApp_0, DL.kApp_1, DL.eApp_k, DL.kMt2_0, DL.kMt2_1, DL.kMt1_0, DL.kMt_0, DL.kMt_1, DL.eMt_k, DL.kTru_0, DL.kTru_1, DL.tTru_k, DL.kAnd_0, DL.kAnd_1, DL.kAnd_2, DL.tAndF_k, DL.kOr_0, DL.kOr_1, DL.kOr_2, DL.tOrF_k, DL.kNot_0, DL.kNot_1, DL.kNot_2, DL.tNotF_k, DL.kEIf_0, DL.kEIf_1, DL.kEIf_2, DL.eIf_k, DL.kEAnd2_0, DL.kEAnd2_1, DL.kEAnd2_2, DL.kEAnd_0, DL.kEAnd_1, DL.eAnd_k, DL.kEOr2_0, DL.kEOr2_1, DL.kEOr2_2, DL.kEOr_0, DL.kEOr_1, DL.eOr_k, DL.kENot2_0, DL.kENot2_1, DL.kENot2_2, DL.kENot_0, DL.kENot_1, DL.eNot_k, DL.kSl3_0, DL.kSl3_1, DL.kSl2_0, DL.kSl2_1, DL.kSl_0, DL.kSl_1, DL.eSl_k, DL.oNone_k, DL.kOS_0, DL.kOS_1, DL.oSome_k, DL.kKw2_0, DL.kKw2_1, DL.kKw_0, DL.kKw_1, DL.eKw_k, DL.truD_bl, DL.blD_bl, DL.addD_i, DL.subD_i, DL.ltI_i, DL.leI_i, DL.gtI_i, DL.geI_i, DL.negD_i, DL.intD_i, DL.intD_b, DL.max2D_i, DL.min2D_i, DL.gcdD_i, DL.lenD_t, DL.lenD_f, DL.isD_nn, DL.isD_in, DL.isD_tn, DL.isD_bn, DL.isD_sn, DL.isD_ib, DL.isD_tb, DL.isD_bb, DL.isD_sb, DL.isD_nb, DL.isnD_bb, DL.isi_i, DL.isi_b, DL.isi_t, DL.isi_s, DL.isi_n, DL.isTy_ii, DL.isTy_bi, DL.isTy_ib, DL.isTy_bb, DL.isTy_tt, DL.isTy_it, DL.isTy_bt, DL.isTy_ti, DL.isTy_is, DL.isTy_bs, DL.isTy_ss, DL.isTy_st, DL.isTy_nt, DL.isTy_ns, DL.isTy_ni, DL.isTy_ts, DL.isTy_si, DL.isTy_tb, DL.mulD_i, DL.modD_i, DL.fdivD_i, DL.powD_i, DL.tupD_k, DL.lstD_k, DL.fnD_k, DL.endR_rt, DL.endR_nx, DL.endR_ex, List.map_cons, List.map_nil, List.replicate_succ, List.replicate_zero, List.cons_append, List.nil_append, List.getElem?_cons_zero, List.getElem?_cons_succ, List.set_cons_zero, List.set_cons_succ, Nat.reduceSub, Nat.reduceAdd, List.length_cons, List.length_nil, List.any_cons, List.any_nil, Bool.or_false, Bool.or_true, Bool.not_true, Bool.not_false, Nat.reduceLeDiff, Bool.false_or, Bool.true_or, DL.trim_eq, DL.sFor_k, DL.kFor_0, DL.cSrc_k, DL.kSrc_0, DL.cApp_k, DL.kSrcA_0, DL.srcD_t, DL.srcD_f, DL.eqD_ii, DL.neD_ii, DL.ix_t0, DL.ix_t1, c, decide_true]
      have e2 : L__law_gcd_0 [.d (.int a), .d (.int b)] s = .nx [.d (.int b), .d (.int (a % b))] s := by
        unfold L__law_gcd_0
        rw [sPar_k _ _ _ _ s s (.int b) (.int (a % b)) (by simp only [DL.kSeq_0, DL.kSeq_1, DL.kSeq_2, DL.kSeq_3, DL.kSeq_4, DL.sSeq_k, DL.sSkip_k, DL.sBreak_k, DL.sCont_k, DL.sRetN_k, DL.kExpr_0, DL.kExpr_1, DL.sExpr_k, DL.kRet_0, DL.kRet_1, DL.sRet_k, DL.kIf_0, DL.kIf_1, DL.kIf_2, DL.sIf_k, DL.kAsg2_0, DL.kAsg_0, DL.kAsg_1, DL.sAsg_k, DL.sSet_k, DL.gN_k, DL.gsN_k, DL.kG_0, DL.gsC_k, DL.gT_k, DL.kPut4_0, DL.kPut3_0, DL.kPut3_1, DL.kPut2_0, DL.kPut2_1, DL.kPut_0, DL.kPut_1, DL.sPut_k, DL.sPar_k, DL.kVar_0, DL.eVar_k, DL.eC_k, DL.kUn_0, DL.kUn_1, DL.eUn_k, DL.eIsi_k, DL.kBin2_0, DL.kBin2_1, DL.kBin_0, DL.kBin_1, DL.eBin_k, DL.aNil_k, DL.kCons2_0, DL.kCons2_1, DL.kCons_0, DL.kCons_1, DL.aCons_k, DL.kApp_0, DL.kApp_1, DL.eApp_k, DL.kMt2_0, DL.kMt2_1, DL.kMt1_0, DL.kMt_0, DL.kMt_1, DL.eMt_k, DL.kTru_0, DL.kTru_1, DL.tTru_k, DL.kAnd_0, DL.kAnd_1, DL.kAnd_2, DL.tAndF_k, DL.kOr_0, DL.kOr_1, DL.kOr_2, DL.tOrF_k, DL.kNot_0, DL.kNot_1, DL.kNot_2, DL.tNotF_k, DL.kEIf_0, DL.kEIf_1, DL.kEIf_2, DL.eIf_k, DL.kEAnd2_0, DL.kEAnd2_1, DL.kEAnd2_2, DL.kEAnd_0, DL.kEAnd_1, DL.eAnd_k, DL.kEOr2_0, DL.kEOr2_1, DL.kEOr2_2, DL.kEOr_0, DL.kEOr_1, DL.eOr_k, DL.kENot2_0, DL.kENot2_1, DL.kENot2_2, DL.kENot_0, DL.kENot_1, DL.eNot_k, DL.kSl3_0, DL.kSl3_1, DL.kSl2_0, DL.kSl2_1, DL.kSl_0, DL.kSl_1, DL.eSl_k, DL.oNone_k, DL.kOS_0, DL.kOS_1, DL.oSome_k, DL.kKw2_0, DL.kKw2_1, DL.kKw_0, DL.kKw_1, DL.eKw_k, DL.truD_bl, DL.blD_bl, DL.addD_i, DL.subD_i, DL.ltI_i, DL.leI_i, DL.gtI_i, DL.geI_i, DL.negD_i, DL.intD_i, DL.intD_b, DL.max2D_i, DL.min2D_i, DL.gcdD_i, DL.lenD_t, DL.lenD_f, DL.isD_nn, DL.isD_in, DL.isD_tn, DL.isD_bn, DL.isD_sn, DL.isD_ib, DL.isD_tb, DL.isD_bb, DL.isD_sb, DL.isD_nb, DL.isnD_bb, DL.isi_i, DL.isi_b, DL.isi_t, DL.isi_s, DL.isi_n, DL.isTy_ii, DL.isTy_bi, DL.isTy_ib, DL.isTy_bb, DL.isTy_tt, DL.isTy_it, DL.isTy_bt, DL.isTy_ti, DL.isTy_is, DL.isTy_bs, DL.isTy_ss, DL.isTy_st, DL.isTy_nt, DL.isTy_ns, DL.isTy_ni, DL.isTy_ts, DL.isTy_si, DL.isTy_tb, DL.mulD_i, DL.modD_i, DL.fdivD_i, DL.powD_i, DL.tupD_k, DL.lstD_k, DL.fnD_k, DL.endR_rt, DL.endR_nx, DL.endR_ex, List.map_cons, List.map_nil, List.replicate_succ, List.replicate_zero, List.cons_append, List.nil_append, List.getElem?_cons_zero, List.getElem?_cons_succ, List.set_cons_zero, List.set_cons_succ, Nat.reduceSub, Nat.reduceAdd, List.length_cons, List.length_nil, List.any_cons, List.any_nil, Bool.or_false, Bool.or_true, Bool.not_true, Bool.not_false, Nat.reduceLeDiff, Bool.false_or, Bool.true_or, DL.trim_eq, DL.sFor_k, DL.kFor_0, DL.cSrc_k, DL.kSrc_0, DL.cApp_k, DL.kSrcA_0, DL.srcD_t, DL.srcD_f, DL.eqD_ii, DL.neD_ii, DL.ix_t0, DL.ix_t1, modD_i _ _ _ c])]
        rfl
      rw [loopW_1 e1 e2, gcd_loop n b (a % b) s hb (Int.emod_nonneg _ (by omega)) (by have := Int.emod_lt_of_pos a c; omega), gcd_step ha c]
    · have e0 : b = 0 := by omega
      subst e0
      rw [loopW_0 _ _ _ _ _ (by simp only [DL.kSeq_0, DL.kSeq_1, DL.kSeq_2, DL.kSeq_3, DL.kSeq_4, DL.sSeq_k, DL.sSkip_k, DL.sBreak_k, DL.sCont_k, DL.sRetN_k, DL.kExpr_0, DL.kExpr_1, DL.sExpr_k, DL.kRet_0, DL.kRet_1, DL.sRet_k, DL.kIf_0, DL.kIf_1, DL.kIf_2, DL.sIf_k, DL.kAsg2_0, DL.kAsg_0, DL.kAsg_1, DL.sAsg_k, DL.sSet_k, DL.gN_k, DL.gsN_k, DL.kG_0, DL.gsC_k, DL.gT_k, DL.kPut4_0, DL.kPut3_0, DL.kPut3_1, DL.kPut2_0, DL.kPut2_1, DL.kPut_0, DL.kPut_1, DL.sPut_k, DL.sPar_k, DL.kVar_0, DL.eVar_k, DL.eC_k, DL.kUn_0, DL.kUn_1, DL.eUn_k, DL.eIsi_k, DL.kBin2_0, DL.kBin2_1, DL.kBin_0, DL.kBin_1, DL.eBin_k, DL.aNil_k, DL.kCons2_0, DL.kCons2_1, DL.kCons_0, DL.kCons_1, DL.aCons_k, DL.kApp_0, DL.kApp_1, DL.eApp_k, DL.kMt2_0, DL.kMt2_1, DL.kMt1_0, DL.kMt_0, DL.kMt_1, DL.eMt_k, DL.kTru_0, DL.kTru_1, DL.tTru_k, DL.kAnd_0, DL.kAnd_1, DL.kAnd_2, DL.tAndF_k, DL.kOr_0, DL.kOr_1, DL.kOr_2, DL.tOrF_k, DL.kNot_0, DL.kNot_1, DL.kNot_2, DL.tNotF_k, DL.kEIf_0, DL.kEIf_1, DL.kEIf_2, DL.eIf_k, DL.kEAnd2_0, DL.kEAnd2_1, DL.kEAnd2_2, DL.kEAnd_0, DL.kEAnd_1, DL.eAnd_k, DL.kEOr2_0, DL.kEOr2_1, DL.kEOr2_2, DL.kEOr_0, DL.kEOr_1, DL.eOr_k, DL.kENot2_0, DL.kENot2_1, DL.kENot2_2, DL.kENot_0, DL.kENot_1, DL.eNot_k, DL.kSl3_0, DL.kSl3_1, DL.kSl2_0, DL.kSl2_1, DL.kSl_0, DL.kSl_1, DL.eSl_k, DL.oNone_k, DL.kOS_0, DL.kOS_1, DL.oSome_k, DL.kKw2_0, DL.kKw2_1, DL.kKw_0, DL.kKw_1, DL.eKw_k, DL.truD_bl, DL.blD_bl, DL.addD_i, DL.subD_i, DL.ltI_i, DL.leI_i, DL.gtI_i, DL.geI_i, DL.negD_i, DL.intD_i, DL.intD_b, DL.max2D_i, DL.min2D_i, DL.gcdD_i, DL.lenD_t, DL.lenD_f, DL.isD_nn, DL.isD_in, DL.isD_tn, DL.isD_bn, DL.isD_sn, DL.isD_ib, DL.isD_tb, DL.isD_bb, DL.isD_sb, DL.isD_nb, DL.isnD_bb, DL.isi_i, DL.isi_b, DL.isi_t, DL.isi_s, DL.isi_n, DL.isTy_ii, DL.isTy_bi, DL.isTy_ib, DL.isTy_bb, DL.isTy_tt, DL.isTy_it, DL.isTy_bt, DL.isTy_ti, DL.isTy_is, DL.isTy_bs, DL.isTy_ss, DL.isTy_st, DL.isTy_nt, DL.isTy_ns, DL.isTy_ni, DL.isTy_ts, DL.isTy_si, DL.isTy_tb, DL.mulD_i, DL.modD_i, DL.fdivD_i, DL.powD_i, DL.tupD_k, DL.lstD_k, DL.fnD_k, DL.endR_rt, DL.endR_nx, DL.endR_ex, List.map_cons, List.map_nil, List.replicate_succ, List.replicate_zero, List.cons_append, List.nil_append, List.getElem?_cons_zero, List.getElem?_cons_succ, List.set_cons_zero, List.set_cons_succ, Nat.reduceSub, Nat.reduceAdd, List.length_cons, List.length_nil, List.any_cons, List.any_nil, Bool.or_false, Bool.or_true, Bool.not_true, Bool.not_false, Nat.reduceLeDiff, Bool.false_or, Bool.true_or, DL.trim_eq, DL.sFor_k, DL.kFor_0, DL.cSrc_k, DL.kSrc_0, DL.cApp_k, DL.kSrcA_0, DL.srcD_t, DL.srcD_f, DL.eqD_ii, DL.neD_ii, DL.ix_t0, DL.ix_t1, decide_false, Int.lt_irrefl])]
      simp [gI]
      omega
theorem gcd_ok {a b : Int} (s : Sto) (ha : 0 ≤ a) (hb : 0 ≤ b) : F__law_gcd [.int a, .int b] s = .ok (.int (gI a b)) s := by
  have h := gcd_loop (b.toNat + 2) a b s ha hb (by omega)
  have e : S__law_gcd_0 [.d (.int a), .d (.int b)] s = .nx [.d (.int (gI a b)), .d (.int 0)] s := h
  simp only [F__law_gcd, B__law_gcd, DL.kSeq_0, DL.kSeq_1, DL.kSeq_2, DL.kSeq_3, DL.kSeq_4, DL.sSeq_k, DL.sSkip_k, DL.sBreak_k, DL.sCont_k, DL.sRetN_k, DL.kExpr_0, DL.kExpr_1, DL.sExpr_k, DL.kRet_0, DL.kRet_1, DL.sRet_k, DL.kIf_0, DL.kIf_1, DL.kIf_2, DL.sIf_k, DL.kAsg2_0, DL.kAsg_0, DL.kAsg_1, DL.sAsg_k, DL.sSet_k, DL.gN_k, DL.gsN_k, DL.kG_0, DL.gsC_k, DL.gT_k, DL.kPut4_0, DL.kPut3_0, DL.kPut3_1, DL.kPut2_0, DL.kPut2_1, DL.kPut_0, DL.kPut_1, DL.sPut_k, DL.sPar_k, DL.kVar_0, DL.eVar_k, DL.eC_k, DL.kUn_0, DL.kUn_1, DL.eUn_k, DL.eIsi_k, DL.kBin2_0, DL.kBin2_1, DL.kBin_0, DL.kBin_1, DL.eBin_k, DL.aNil_k, DL.kCons2_0, DL.kCons2_1, DL.kCons_0, DL.kCons_1, DL.aCons_k, DL.kApp_0, DL.kApp_1, DL.eApp_k, DL.kMt2_0, DL.kMt2_1, DL.kMt1_0, DL.kMt_0, DL.kMt_1, DL.eMt_k, DL.kTru_0, DL.kTru_1, DL.tTru_k, DL.kAnd_0, DL.kAnd_1, DL.kAnd_2, DL.tAndF_k, DL.kOr_0, DL.kOr_1, DL.kOr_2, DL.tOrF_k, DL.kNot_0, DL.kNot_1, DL.kNot_2, DL.tNotF_k, DL.kEIf_0, DL.kEIf_1, DL.kEIf_2, DL.eIf_k, DL.kEAnd2_0, DL.kEAnd2_1, DL.kEAnd2_2, DL.kEAnd_0, DL.kEAnd_1, DL.eAnd_k, DL.kEOr2_0, DL.kEOr2_1, DL.kEOr2_2, DL.kEOr_0, DL.kEOr_1, DL.eOr_k, DL.kENot2_0, DL.kENot2_1, DL.kENot2_2, DL.kENot_0, DL.kENot_1, DL.eNot_k, DL.kSl3_0, DL.kSl3_1, DL.kSl2_0, DL.kSl2_1, DL.kSl_0, DL.kSl_1, DL.eSl_k, DL.oNone_k, DL.kOS_0, DL.kOS_1, DL.oSome_k, DL.kKw2_0, DL.kKw2_1, DL.kKw_0, DL.kKw_1, DL.eKw_k, DL.truD_bl, DL.blD_bl, DL.addD_i, DL.subD_i, DL.ltI_i, DL.leI_i, DL.gtI_i, DL.geI_i, DL.negD_i, DL.intD_i, DL.intD_b, DL.max2D_i, DL.min2D_i, DL.gcdD_i, DL.lenD_t, DL.lenD_f, DL.isD_nn, DL.isD_in, DL.isD_tn, DL.isD_bn, DL.isD_sn, DL.isD_ib, DL.isD_tb, DL.isD_bb, DL.isD_sb, DL.isD_nb, DL.isnD_bb, DL.isi_i, DL.isi_b, DL.isi_t, DL.isi_s, DL.isi_n, DL.isTy_ii, DL.isTy_bi, DL.isTy_ib, DL.isTy_bb, DL.isTy_tt, DL.isTy_it, DL.isTy_bt, DL.isTy_ti, DL.isTy_is, DL.isTy_bs, DL.isTy_ss, DL.isTy_st, DL.isTy_nt, DL.isTy_ns, DL.isTy_ni, DL.isTy_ts, DL.isTy_si, DL.isTy_tb, DL.mulD_i, DL.modD_i, DL.fdivD_i, DL.powD_i, DL.tupD_k, DL.lstD_k, DL.fnD_k, DL.endR_rt, DL.endR_nx, DL.endR_ex, List.map_cons, List.map_nil, List.replicate_succ, List.replicate_zero, List.cons_append, List.nil_append, List.getElem?_cons_zero, List.getElem?_cons_succ, List.set_cons_zero, List.set_cons_succ, Nat.reduceSub, Nat.reduceAdd, List.length_cons, List.length_nil, List.any_cons, List.any_nil, Bool.or_false, Bool.or_true, Bool.not_true, Bool.not_false, Nat.reduceLeDiff, Bool.false_or, Bool.true_or, DL.trim_eq, DL.sFor_k, DL.kFor_0, DL.cSrc_k, DL.kSrc_0, DL.cApp_k, DL.kSrcA_0, DL.srcD_t, DL.srcD_f, DL.eqD_ii, DL.neD_ii, DL.ix_t0, DL.ix_t1, e]
  simp only [S__law_gcd_1, DL.kSeq_0, DL.kSeq_1, DL.kSeq_2, DL.kSeq_3, DL.kSeq_4, DL.sSeq_k, DL.sSkip_k, DL.sBreak_k, DL.sCont_k, DL.sRetN_k, DL.kExpr_0, DL.kExpr_1, DL.sExpr_k, DL.kRet_0, DL.kRet_1, DL.sRet_k, DL.kIf_0, DL.kIf_1, DL.kIf_2, DL.sIf_k, DL.kAsg2_0, DL.kAsg_0, DL.kAsg_1, DL.sAsg_k, DL.sSet_k, DL.gN_k, DL.gsN_k, DL.kG_0, DL.gsC_k, DL.gT_k, DL.kPut4_0, DL.kPut3_0, DL.kPut3_1, DL.kPut2_0, DL.kPut2_1, DL.kPut_0, DL.kPut_1, DL.sPut_k, DL.sPar_k, DL.kVar_0, DL.eVar_k, DL.eC_k, DL.kUn_0, DL.kUn_1, DL.eUn_k, DL.eIsi_k, DL.kBin2_0, DL.kBin2_1, DL.kBin_0, DL.kBin_1, DL.eBin_k, DL.aNil_k, DL.kCons2_0, DL.kCons2_1, DL.kCons_0, DL.kCons_1, DL.aCons_k, DL.kApp_0, DL.kApp_1, DL.eApp_k, DL.kMt2_0, DL.kMt2_1, DL.kMt1_0, DL.kMt_0, DL.kMt_1, DL.eMt_k, DL.kTru_0, DL.kTru_1, DL.tTru_k, DL.kAnd_0, DL.kAnd_1, DL.kAnd_2, DL.tAndF_k, DL.kOr_0, DL.kOr_1, DL.kOr_2, DL.tOrF_k, DL.kNot_0, DL.kNot_1, DL.kNot_2, DL.tNotF_k, DL.kEIf_0, DL.kEIf_1, DL.kEIf_2, DL.eIf_k, DL.kEAnd2_0, DL.kEAnd2_1, DL.kEAnd2_2, DL.kEAnd_0, DL.kEAnd_1, DL.eAnd_k, DL.kEOr2_0, DL.kEOr2_1, DL.kEOr2_2, DL.kEOr_0, DL.kEOr_1, DL.eOr_k, DL.kENot2_0, DL.kENot2_1, DL.kENot2_2, DL.kENot_0, DL.kENot_1, DL.eNot_k, DL.kSl3_0, DL.kSl3_1, DL.kSl2_0, DL.kSl2_1, DL.kSl_0, DL.kSl_1, DL.eSl_k, DL.oNone_k, DL.kOS_0, DL.kOS_1, DL.oSome_k, DL.kKw2_0, DL.kKw2_1, DL.kKw_0, DL.kKw_1, DL.eKw_k, DL.truD_bl, DL.blD_bl, DL.addD_i, DL.subD_i, DL.ltI_i, DL.leI_i, DL.gtI_i, DL.geI_i, DL.negD_i, DL.intD_i, DL.intD_b, DL.max2D_i, DL.min2D_i, DL.gcdD_i, DL.lenD_t, DL.lenD_f, DL.isD_nn, DL.isD_in, DL.isD_tn, DL.isD_bn, DL.isD_sn, DL.isD_ib, DL.isD_tb, DL.isD_bb, DL.isD_sb, DL.isD_nb, DL.isnD_bb, DL.isi_i, DL.isi_b, DL.isi_t, DL.isi_s, DL.isi_n, DL.isTy_ii, DL.isTy_bi, DL.isTy_ib, DL.isTy_bb, DL.isTy_tt, DL.isTy_it, DL.isTy_bt, DL.isTy_ti, DL.isTy_is, DL.isTy_bs, DL.isTy_ss, DL.isTy_st, DL.isTy_nt, DL.isTy_ns, DL.isTy_ni, DL.isTy_ts, DL.isTy_si, DL.isTy_tb, DL.mulD_i, DL.modD_i, DL.fdivD_i, DL.powD_i, DL.tupD_k, DL.lstD_k, DL.fnD_k, DL.endR_rt, DL.endR_nx, DL.endR_ex, List.map_cons, List.map_nil, List.replicate_succ, List.replicate_zero, List.cons_append, List.nil_append, List.getElem?_cons_zero, List.getElem?_cons_succ, List.set_cons_zero, List.set_cons_succ, Nat.reduceSub, Nat.reduceAdd, List.length_cons, List.length_nil, List.any_cons, List.any_nil, Bool.or_false, Bool.or_true, Bool.not_true, Bool.not_false, Nat.reduceLeDiff, Bool.false_or, Bool.true_or, DL.trim_eq, DL.sFor_k, DL.kFor_0, DL.cSrc_k, DL.kSrc_0, DL.cApp_k, DL.kSrcA_0, DL.srcD_t, DL.srcD_f, DL.eqD_ii, DL.neD_ii, DL.ix_t0, DL.ix_t1]
theorem lowest_ok {a b : Int} (s : Sto) (ha : 0 ≤ a) (hb : 1 ≤ b) (hz : b.natAbs < 2 ^ 9000) : F__law_lowest [.int a, .int b] s = .ok (loD a b) s := by
  have g0 := gI_pos (a := a) hb
  have g1 : (gI a b).natAbs < 2 ^ 9000 := Nat.lt_of_le_of_lt (gI_le hb) hz
  simp only [F__law_lowest, B__law_lowest, S__law_lowest_0, S__law_lowest_1, DL.kSeq_0, DL.kSeq_1, DL.kSeq_2, DL.kSeq_3, DL.kSeq_4, DL.sSeq_k, DL.sSkip_k, DL.sBreak_k, DL.sCont_k, DL.sRetN_k, DL.kExpr_0, DL.kExpr_1, DL.sExpr_k, DL.kRet_0, DL.kRet_1, DL.sRet_k, DL.kIf_0, DL.kIf_1, DL.kIf_2, DL.sIf_k, DL.kAsg2_0, DL.kAsg_0, DL.kAsg_1, DL.sAsg_k, DL.sSet_k, DL.gN_k, DL.gsN_k, DL.kG_0, DL.gsC_k, DL.gT_k, DL.kPut4_0, DL.kPut3_0, DL.kPut3_1, DL.kPut2_0, DL.kPut2_1, DL.kPut_0, DL.kPut_1, DL.sPut_k, DL.sPar_k, DL.kVar_0, DL.eVar_k, DL.eC_k, DL.kUn_0, DL.kUn_1, DL.eUn_k, DL.eIsi_k, DL.kBin2_0, DL.kBin2_1, DL.kBin_0, DL.kBin_1, DL.eBin_k, DL.aNil_k, DL.kCons2_0, DL.kCons2_1, DL.kCons_0, DL.kCons_1, DL.aCons_k, DL.kApp_0, DL.kApp_1, DL.eApp_k, DL.kMt2_0, DL.kMt2_1, DL.kMt1_0, DL.kMt_0, DL.kMt_1, DL.eMt_k, DL.kTru_0, DL.kTru_1, DL.tTru_k, DL.kAnd_0, DL.kAnd_1, DL.kAnd_2, DL.tAndF_k, DL.kOr_0, DL.kOr_1, DL.kOr_2, DL.tOrF_k, DL.kNot_0, DL.kNot_1, DL.kNot_2, DL.tNotF_k, DL.kEIf_0, DL.kEIf_1, DL.kEIf_2, DL.eIf_k, DL.kEAnd2_0, DL.kEAnd2_1, DL.kEAnd2_2, DL.kEAnd_0, DL.kEAnd_1, DL.eAnd_k, DL.kEOr2_0, DL.kEOr2_1, DL.kEOr2_2, DL.kEOr_0, DL.kEOr_1, DL.eOr_k, DL.kENot2_0, DL.kENot2_1, DL.kENot2_2, DL.kENot_0, DL.kENot_1, DL.eNot_k, DL.kSl3_0, DL.kSl3_1, DL.kSl2_0, DL.kSl2_1, DL.kSl_0, DL.kSl_1, DL.eSl_k, DL.oNone_k, DL.kOS_0, DL.kOS_1, DL.oSome_k, DL.kKw2_0, DL.kKw2_1, DL.kKw_0, DL.kKw_1, DL.eKw_k, DL.truD_bl, DL.blD_bl, DL.addD_i, DL.subD_i, DL.ltI_i, DL.leI_i, DL.gtI_i, DL.geI_i, DL.negD_i, DL.intD_i, DL.intD_b, DL.max2D_i, DL.min2D_i, DL.gcdD_i, DL.lenD_t, DL.lenD_f, DL.isD_nn, DL.isD_in, DL.isD_tn, DL.isD_bn, DL.isD_sn, DL.isD_ib, DL.isD_tb, DL.isD_bb, DL.isD_sb, DL.isD_nb, DL.isnD_bb, DL.isi_i, DL.isi_b, DL.isi_t, DL.isi_s, DL.isi_n, DL.isTy_ii, DL.isTy_bi, DL.isTy_ib, DL.isTy_bb, DL.isTy_tt, DL.isTy_it, DL.isTy_bt, DL.isTy_ti, DL.isTy_is, DL.isTy_bs, DL.isTy_ss, DL.isTy_st, DL.isTy_nt, DL.isTy_ns, DL.isTy_ni, DL.isTy_ts, DL.isTy_si, DL.isTy_tb, DL.mulD_i, DL.modD_i, DL.fdivD_i, DL.powD_i, DL.tupD_k, DL.lstD_k, DL.fnD_k, DL.endR_rt, DL.endR_nx, DL.endR_ex, List.map_cons, List.map_nil, List.replicate_succ, List.replicate_zero, List.cons_append, List.nil_append, List.getElem?_cons_zero, List.getElem?_cons_succ, List.set_cons_zero, List.set_cons_succ, Nat.reduceSub, Nat.reduceAdd, List.length_cons, List.length_nil, List.any_cons, List.any_nil, Bool.or_false, Bool.or_true, Bool.not_true, Bool.not_false, Nat.reduceLeDiff, Bool.false_or, Bool.true_or, DL.trim_eq, DL.sFor_k, DL.kFor_0, DL.cSrc_k, DL.kSrc_0, DL.cApp_k, DL.kSrcA_0, DL.srcD_t, DL.srcD_f, DL.eqD_ii, DL.neD_ii, DL.ix_t0, DL.ix_t1, gcd_ok s ha (show 0 ≤ b by omega), fdivD_i _ _ _ g0 g1]
  rfl
theorem same_refl : ∀ (n : Nat) (d : D) (s : Sto), gd n d = true → F__law_same (n + 1) [d, d] s = .ok (.bl true) s
  | n, .non, s, _ => by simp only [F__law_same, S__law_same_0, DL.kSeq_0, DL.kSeq_1, DL.kSeq_2, DL.kSeq_3, DL.kSeq_4, DL.sSeq_k, DL.sSkip_k, DL.sBreak_k, DL.sCont_k, DL.sRetN_k, DL.kExpr_0, DL.kExpr_1, DL.sExpr_k, DL.kRet_0, DL.kRet_1, DL.sRet_k, DL.kIf_0, DL.kIf_1, DL.kIf_2, DL.sIf_k, DL.kAsg2_0, DL.kAsg_0, DL.kAsg_1, DL.sAsg_k, DL.sSet_k, DL.gN_k, DL.gsN_k, DL.kG_0, DL.gsC_k, DL.gT_k, DL.kPut4_0, DL.kPut3_0, DL.kPut3_1, DL.kPut2_0, DL.kPut2_1, DL.kPut_0, DL.kPut_1, DL.sPut_k, DL.sPar_k, DL.kVar_0, DL.eVar_k, DL.eC_k, DL.kUn_0, DL.kUn_1, DL.eUn_k, DL.eIsi_k, DL.kBin2_0, DL.kBin2_1, DL.kBin_0, DL.kBin_1, DL.eBin_k, DL.aNil_k, DL.kCons2_0, DL.kCons2_1, DL.kCons_0, DL.kCons_1, DL.aCons_k, DL.kApp_0, DL.kApp_1, DL.eApp_k, DL.kMt2_0, DL.kMt2_1, DL.kMt1_0, DL.kMt_0, DL.kMt_1, DL.eMt_k, DL.kTru_0, DL.kTru_1, DL.tTru_k, DL.kAnd_0, DL.kAnd_1, DL.kAnd_2, DL.tAndF_k, DL.kOr_0, DL.kOr_1, DL.kOr_2, DL.tOrF_k, DL.kNot_0, DL.kNot_1, DL.kNot_2, DL.tNotF_k, DL.kEIf_0, DL.kEIf_1, DL.kEIf_2, DL.eIf_k, DL.kEAnd2_0, DL.kEAnd2_1, DL.kEAnd2_2, DL.kEAnd_0, DL.kEAnd_1, DL.eAnd_k, DL.kEOr2_0, DL.kEOr2_1, DL.kEOr2_2, DL.kEOr_0, DL.kEOr_1, DL.eOr_k, DL.kENot2_0, DL.kENot2_1, DL.kENot2_2, DL.kENot_0, DL.kENot_1, DL.eNot_k, DL.kSl3_0, DL.kSl3_1, DL.kSl2_0, DL.kSl2_1, DL.kSl_0, DL.kSl_1, DL.eSl_k, DL.oNone_k, DL.kOS_0, DL.kOS_1, DL.oSome_k, DL.kKw2_0, DL.kKw2_1, DL.kKw_0, DL.kKw_1, DL.eKw_k, DL.truD_bl, DL.blD_bl, DL.addD_i, DL.subD_i, DL.ltI_i, DL.leI_i, DL.gtI_i, DL.geI_i, DL.negD_i, DL.intD_i, DL.intD_b, DL.max2D_i, DL.min2D_i, DL.gcdD_i, DL.lenD_t, DL.lenD_f, DL.isD_nn, DL.isD_in, DL.isD_tn, DL.isD_bn, DL.isD_sn, DL.isD_ib, DL.isD_tb, DL.isD_bb, DL.isD_sb, DL.isD_nb, DL.isnD_bb, DL.isi_i, DL.isi_b, DL.isi_t, DL.isi_s, DL.isi_n, DL.isTy_ii, DL.isTy_bi, DL.isTy_ib, DL.isTy_bb, DL.isTy_tt, DL.isTy_it, DL.isTy_bt, DL.isTy_ti, DL.isTy_is, DL.isTy_bs, DL.isTy_ss, DL.isTy_st, DL.isTy_nt, DL.isTy_ns, DL.isTy_ni, DL.isTy_ts, DL.isTy_si, DL.isTy_tb, DL.mulD_i, DL.modD_i, DL.fdivD_i, DL.powD_i, DL.tupD_k, DL.lstD_k, DL.fnD_k, DL.endR_rt, DL.endR_nx, DL.endR_ex, List.map_cons, List.map_nil, List.replicate_succ, List.replicate_zero, List.cons_append, List.nil_append, List.getElem?_cons_zero, List.getElem?_cons_succ, List.set_cons_zero, List.set_cons_succ, Nat.reduceSub, Nat.reduceAdd, List.length_cons, List.length_nil, List.any_cons, List.any_nil, Bool.or_false, Bool.or_true, Bool.not_true, Bool.not_false, Nat.reduceLeDiff, Bool.false_or, Bool.true_or, DL.trim_eq, DL.sFor_k, DL.kFor_0, DL.cSrc_k, DL.kSrc_0, DL.cApp_k, DL.kSrcA_0, DL.srcD_t, DL.srcD_f, DL.eqD_ii, DL.neD_ii, DL.ix_t0, DL.ix_t1]
  | n, .bl true, s, _ => by simp only [F__law_same, S__law_same_0, S__law_same_1, DL.kSeq_0, DL.kSeq_1, DL.kSeq_2, DL.kSeq_3, DL.kSeq_4, DL.sSeq_k, DL.sSkip_k, DL.sBreak_k, DL.sCont_k, DL.sRetN_k, DL.kExpr_0, DL.kExpr_1, DL.sExpr_k, DL.kRet_0, DL.kRet_1, DL.sRet_k, DL.kIf_0, DL.kIf_1, DL.kIf_2, DL.sIf_k, DL.kAsg2_0, DL.kAsg_0, DL.kAsg_1, DL.sAsg_k, DL.sSet_k, DL.gN_k, DL.gsN_k, DL.kG_0, DL.gsC_k, DL.gT_k, DL.kPut4_0, DL.kPut3_0, DL.kPut3_1, DL.kPut2_0, DL.kPut2_1, DL.kPut_0, DL.kPut_1, DL.sPut_k, DL.sPar_k, DL.kVar_0, DL.eVar_k, DL.eC_k, DL.kUn_0, DL.kUn_1, DL.eUn_k, DL.eIsi_k, DL.kBin2_0, DL.kBin2_1, DL.kBin_0, DL.kBin_1, DL.eBin_k, DL.aNil_k, DL.kCons2_0, DL.kCons2_1, DL.kCons_0, DL.kCons_1, DL.aCons_k, DL.kApp_0, DL.kApp_1, DL.eApp_k, DL.kMt2_0, DL.kMt2_1, DL.kMt1_0, DL.kMt_0, DL.kMt_1, DL.eMt_k, DL.kTru_0, DL.kTru_1, DL.tTru_k, DL.kAnd_0, DL.kAnd_1, DL.kAnd_2, DL.tAndF_k, DL.kOr_0, DL.kOr_1, DL.kOr_2, DL.tOrF_k, DL.kNot_0, DL.kNot_1, DL.kNot_2, DL.tNotF_k, DL.kEIf_0, DL.kEIf_1, DL.kEIf_2, DL.eIf_k, DL.kEAnd2_0, DL.kEAnd2_1, DL.kEAnd2_2, DL.kEAnd_0, DL.kEAnd_1, DL.eAnd_k, DL.kEOr2_0, DL.kEOr2_1, DL.kEOr2_2, DL.kEOr_0, DL.kEOr_1, DL.eOr_k, DL.kENot2_0, DL.kENot2_1, DL.kENot2_2, DL.kENot_0, DL.kENot_1, DL.eNot_k, DL.kSl3_0, DL.kSl3_1, DL.kSl2_0, DL.kSl2_1, DL.kSl_0, DL.kSl_1, DL.eSl_k, DL.oNone_k, DL.kOS_0, DL.kOS_1, DL.oSome_k, DL.kKw2_0, DL.kKw2_1, DL.kKw_0, DL.kKw_1, DL.eKw_k, DL.truD_bl, DL.blD_bl, DL.addD_i, DL.subD_i, DL.ltI_i, DL.leI_i, DL.gtI_i, DL.geI_i, DL.negD_i, DL.intD_i, DL.intD_b, DL.max2D_i, DL.min2D_i, DL.gcdD_i, DL.lenD_t, DL.lenD_f, DL.isD_nn, DL.isD_in, DL.isD_tn, DL.isD_bn, DL.isD_sn, DL.isD_ib, DL.isD_tb, DL.isD_bb, DL.isD_sb, DL.isD_nb, DL.isnD_bb, DL.isi_i, DL.isi_b, DL.isi_t, DL.isi_s, DL.isi_n, DL.isTy_ii, DL.isTy_bi, DL.isTy_ib, DL.isTy_bb, DL.isTy_tt, DL.isTy_it, DL.isTy_bt, DL.isTy_ti, DL.isTy_is, DL.isTy_bs, DL.isTy_ss, DL.isTy_st, DL.isTy_nt, DL.isTy_ns, DL.isTy_ni, DL.isTy_ts, DL.isTy_si, DL.isTy_tb, DL.mulD_i, DL.modD_i, DL.fdivD_i, DL.powD_i, DL.tupD_k, DL.lstD_k, DL.fnD_k, DL.endR_rt, DL.endR_nx, DL.endR_ex, List.map_cons, List.map_nil, List.replicate_succ, List.replicate_zero, List.cons_append, List.nil_append, List.getElem?_cons_zero, List.getElem?_cons_succ, List.set_cons_zero, List.set_cons_succ, Nat.reduceSub, Nat.reduceAdd, List.length_cons, List.length_nil, List.any_cons, List.any_nil, Bool.or_false, Bool.or_true, Bool.not_true, Bool.not_false, Nat.reduceLeDiff, Bool.false_or, Bool.true_or, DL.trim_eq, DL.sFor_k, DL.kFor_0, DL.cSrc_k, DL.kSrc_0, DL.cApp_k, DL.kSrcA_0, DL.srcD_t, DL.srcD_f, DL.eqD_ii, DL.neD_ii, DL.ix_t0, DL.ix_t1, decide_true, decide_false]
  | n, .bl false, s, _ => by
    simp only [F__law_same, S__law_same_0, DL.kSeq_0, DL.kSeq_1, DL.kSeq_2, DL.kSeq_3, DL.kSeq_4, DL.sSeq_k, DL.sSkip_k, DL.sBreak_k, DL.sCont_k, DL.sRetN_k, DL.kExpr_0, DL.kExpr_1, DL.sExpr_k, DL.kRet_0, DL.kRet_1, DL.sRet_k, DL.kIf_0, DL.kIf_1, DL.kIf_2, DL.sIf_k, DL.kAsg2_0, DL.kAsg_0, DL.kAsg_1, DL.sAsg_k, DL.sSet_k, DL.gN_k, DL.gsN_k, DL.kG_0, DL.gsC_k, DL.gT_k, DL.kPut4_0, DL.kPut3_0, DL.kPut3_1, DL.kPut2_0, DL.kPut2_1, DL.kPut_0, DL.kPut_1, DL.sPut_k, DL.sPar_k, DL.kVar_0, DL.eVar_k, DL.eC_k, DL.kUn_0, DL.kUn_1, DL.eUn_k, DL.eIsi_k, DL.kBin2_0, DL.kBin2_1, DL.kBin_0, DL.kBin_1, DL.eBin_k, DL.aNil_k, DL.kCons2_0, DL.kCons2_1, DL.kCons_0, DL.kCons_1, DL.aCons_k, DL.kApp_0, DL.kApp_1, DL.eApp_k, DL.kMt2_0, DL.kMt2_1, DL.kMt1_0, DL.kMt_0, DL.kMt_1, DL.eMt_k, DL.kTru_0, DL.kTru_1, DL.tTru_k, DL.kAnd_0, DL.kAnd_1, DL.kAnd_2, DL.tAndF_k, DL.kOr_0, DL.kOr_1, DL.kOr_2, DL.tOrF_k, DL.kNot_0, DL.kNot_1, DL.kNot_2, DL.tNotF_k, DL.kEIf_0, DL.kEIf_1, DL.kEIf_2, DL.eIf_k, DL.kEAnd2_0, DL.kEAnd2_1, DL.kEAnd2_2, DL.kEAnd_0, DL.kEAnd_1, DL.eAnd_k, DL.kEOr2_0, DL.kEOr2_1, DL.kEOr2_2, DL.kEOr_0, DL.kEOr_1, DL.eOr_k, DL.kENot2_0, DL.kENot2_1, DL.kENot2_2, DL.kENot_0, DL.kENot_1, DL.eNot_k, DL.kSl3_0, DL.kSl3_1, DL.kSl2_0, DL.kSl2_1, DL.kSl_0, DL.kSl_1, DL.eSl_k, DL.oNone_k, DL.kOS_0, DL.kOS_1, DL.oSome_k, DL.kKw2_0, DL.kKw2_1, DL.kKw_0, DL.kKw_1, DL.eKw_k, DL.truD_bl, DL.blD_bl, DL.addD_i, DL.subD_i, DL.ltI_i, DL.leI_i, DL.gtI_i, DL.geI_i, DL.negD_i, DL.intD_i, DL.intD_b, DL.max2D_i, DL.min2D_i, DL.gcdD_i, DL.lenD_t, DL.lenD_f, DL.isD_nn, DL.isD_in, DL.isD_tn, DL.isD_bn, DL.isD_sn, DL.isD_ib, DL.isD_tb, DL.isD_bb, DL.isD_sb, DL.isD_nb, DL.isnD_bb, DL.isi_i, DL.isi_b, DL.isi_t, DL.isi_s, DL.isi_n, DL.isTy_ii, DL.isTy_bi, DL.isTy_ib, DL.isTy_bb, DL.isTy_tt, DL.isTy_it, DL.isTy_bt, DL.isTy_ti, DL.isTy_is, DL.isTy_bs, DL.isTy_ss, DL.isTy_st, DL.isTy_nt, DL.isTy_ns, DL.isTy_ni, DL.isTy_ts, DL.isTy_si, DL.isTy_tb, DL.mulD_i, DL.modD_i, DL.fdivD_i, DL.powD_i, DL.tupD_k, DL.lstD_k, DL.fnD_k, DL.endR_rt, DL.endR_nx, DL.endR_ex, List.map_cons, List.map_nil, List.replicate_succ, List.replicate_zero, List.cons_append, List.nil_append, List.getElem?_cons_zero, List.getElem?_cons_succ, List.set_cons_zero, List.set_cons_succ, Nat.reduceSub, Nat.reduceAdd, List.length_cons, List.length_nil, List.any_cons, List.any_nil, Bool.or_false, Bool.or_true, Bool.not_true, Bool.not_false, Nat.reduceLeDiff, Bool.false_or, Bool.true_or, DL.trim_eq, DL.sFor_k, DL.kFor_0, DL.cSrc_k, DL.kSrc_0, DL.cApp_k, DL.kSrcA_0, DL.srcD_t, DL.srcD_f, DL.eqD_ii, DL.neD_ii, DL.ix_t0, DL.ix_t1]
    simp only [S__law_same_1, DL.kSeq_0, DL.kSeq_1, DL.kSeq_2, DL.kSeq_3, DL.kSeq_4, DL.sSeq_k, DL.sSkip_k, DL.sBreak_k, DL.sCont_k, DL.sRetN_k, DL.kExpr_0, DL.kExpr_1, DL.sExpr_k, DL.kRet_0, DL.kRet_1, DL.sRet_k, DL.kIf_0, DL.kIf_1, DL.kIf_2, DL.sIf_k, DL.kAsg2_0, DL.kAsg_0, DL.kAsg_1, DL.sAsg_k, DL.sSet_k, DL.gN_k, DL.gsN_k, DL.kG_0, DL.gsC_k, DL.gT_k, DL.kPut4_0, DL.kPut3_0, DL.kPut3_1, DL.kPut2_0, DL.kPut2_1, DL.kPut_0, DL.kPut_1, DL.sPut_k, DL.sPar_k, DL.kVar_0, DL.eVar_k, DL.eC_k, DL.kUn_0, DL.kUn_1, DL.eUn_k, DL.eIsi_k, DL.kBin2_0, DL.kBin2_1, DL.kBin_0, DL.kBin_1, DL.eBin_k, DL.aNil_k, DL.kCons2_0, DL.kCons2_1, DL.kCons_0, DL.kCons_1, DL.aCons_k, DL.kApp_0, DL.kApp_1, DL.eApp_k, DL.kMt2_0, DL.kMt2_1, DL.kMt1_0, DL.kMt_0, DL.kMt_1, DL.eMt_k, DL.kTru_0, DL.kTru_1, DL.tTru_k, DL.kAnd_0, DL.kAnd_1, DL.kAnd_2, DL.tAndF_k, DL.kOr_0, DL.kOr_1, DL.kOr_2, DL.tOrF_k, DL.kNot_0, DL.kNot_1, DL.kNot_2, DL.tNotF_k, DL.kEIf_0, DL.kEIf_1, DL.kEIf_2, DL.eIf_k, DL.kEAnd2_0, DL.kEAnd2_1, DL.kEAnd2_2, DL.kEAnd_0, DL.kEAnd_1, DL.eAnd_k, DL.kEOr2_0, DL.kEOr2_1, DL.kEOr2_2, DL.kEOr_0, DL.kEOr_1, DL.eOr_k, DL.kENot2_0, DL.kENot2_1, DL.kENot2_2, DL.kENot_0, DL.kENot_1, DL.eNot_k, DL.kSl3_0, DL.kSl3_1, DL.kSl2_0, DL.kSl2_1, DL.kSl_0, DL.kSl_1, DL.eSl_k, DL.oNone_k, DL.kOS_0, DL.kOS_1, DL.oSome_k, DL.kKw2_0, DL.kKw2_1, DL.kKw_0, DL.kKw_1, DL.eKw_k, DL.truD_bl, DL.blD_bl, DL.addD_i, DL.subD_i, DL.ltI_i, DL.leI_i, DL.gtI_i, DL.geI_i, DL.negD_i, DL.intD_i, DL.intD_b, DL.max2D_i, DL.min2D_i, DL.gcdD_i, DL.lenD_t, DL.lenD_f, DL.isD_nn, DL.isD_in, DL.isD_tn, DL.isD_bn, DL.isD_sn, DL.isD_ib, DL.isD_tb, DL.isD_bb, DL.isD_sb, DL.isD_nb, DL.isnD_bb, DL.isi_i, DL.isi_b, DL.isi_t, DL.isi_s, DL.isi_n, DL.isTy_ii, DL.isTy_bi, DL.isTy_ib, DL.isTy_bb, DL.isTy_tt, DL.isTy_it, DL.isTy_bt, DL.isTy_ti, DL.isTy_is, DL.isTy_bs, DL.isTy_ss, DL.isTy_st, DL.isTy_nt, DL.isTy_ns, DL.isTy_ni, DL.isTy_ts, DL.isTy_si, DL.isTy_tb, DL.mulD_i, DL.modD_i, DL.fdivD_i, DL.powD_i, DL.tupD_k, DL.lstD_k, DL.fnD_k, DL.endR_rt, DL.endR_nx, DL.endR_ex, List.map_cons, List.map_nil, List.replicate_succ, List.replicate_zero, List.cons_append, List.nil_append, List.getElem?_cons_zero, List.getElem?_cons_succ, List.set_cons_zero, List.set_cons_succ, Nat.reduceSub, Nat.reduceAdd, List.length_cons, List.length_nil, List.any_cons, List.any_nil, Bool.or_false, Bool.or_true, Bool.not_true, Bool.not_false, Nat.reduceLeDiff, Bool.false_or, Bool.true_or, DL.trim_eq, DL.sFor_k, DL.kFor_0, DL.cSrc_k, DL.kSrc_0, DL.cApp_k, DL.kSrcA_0, DL.srcD_t, DL.srcD_f, DL.eqD_ii, DL.neD_ii, DL.ix_t0, DL.ix_t1, show decide (false = true) = false from rfl]
    simp only [S__law_same_2, DL.kSeq_0, DL.kSeq_1, DL.kSeq_2, DL.kSeq_3, DL.kSeq_4, DL.sSeq_k, DL.sSkip_k, DL.sBreak_k, DL.sCont_k, DL.sRetN_k, DL.kExpr_0, DL.kExpr_1, DL.sExpr_k, DL.kRet_0, DL.kRet_1, DL.sRet_k, DL.kIf_0, DL.kIf_1, DL.kIf_2, DL.sIf_k, DL.kAsg2_0, DL.kAsg_0, DL.kAsg_1, DL.sAsg_k, DL.sSet_k, DL.gN_k, DL.gsN_k, DL.kG_0, DL.gsC_k, DL.gT_k, DL.kPut4_0, DL.kPut3_0, DL.kPut3_1, DL.kPut2_0, DL.kPut2_1, DL.kPut_0, DL.kPut_1, DL.sPut_k, DL.sPar_k, DL.kVar_0, DL.eVar_k, DL.eC_k, DL.kUn_0, DL.kUn_1, DL.eUn_k, DL.eIsi_k, DL.kBin2_0, DL.kBin2_1, DL.kBin_0, DL.kBin_1, DL.eBin_k, DL.aNil_k, DL.kCons2_0, DL.kCons2_1, DL.kCons_0, DL.kCons_1, DL.aCons_k, DL.kApp_0, DL.kApp_1, DL.eApp_k, DL.kMt2_0, DL.kMt2_1, DL.kMt1_0, DL.kMt_0, DL.kMt_1, DL.eMt_k, DL.kTru_0, DL.kTru_1, DL.tTru_k, DL.kAnd_0, DL.kAnd_1, DL.kAnd_2, DL.tAndF_k, DL.kOr_0, DL.kOr_1, DL.kOr_2, DL.tOrF_k, DL.kNot_0, DL.kNot_1, DL.kNot_2, DL.tNotF_k, DL.kEIf_0, DL.kEIf_1, DL.kEIf_2, DL.eIf_k, DL.kEAnd2_0, DL.kEAnd2_1, DL.kEAnd2_2, DL.kEAnd_0, DL.kEAnd_1, DL.eAnd_k, DL.kEOr2_0, DL.kEOr2_1, DL.kEOr2_2, DL.kEOr_0, DL.kEOr_1, DL.eOr_k, DL.kENot2_0, DL.kENot2_1, DL.kENot2_2, DL.kENot_0, DL.kENot_1, DL.eNot_k, DL.kSl3_0, DL.kSl3_1, DL.kSl2_0, DL.kSl2_1, DL.kSl_0, DL.kSl_1, DL.eSl_k, DL.oNone_k, DL.kOS_0, DL.kOS_1, DL.oSome_k, DL.kKw2_0, DL.kKw2_1, DL.kKw_0, DL.kKw_1, DL.eKw_k, DL.truD_bl, DL.blD_bl, DL.addD_i, DL.subD_i, DL.ltI_i, DL.leI_i, DL.gtI_i, DL.geI_i, DL.negD_i, DL.intD_i, DL.intD_b, DL.max2D_i, DL.min2D_i, DL.gcdD_i, DL.lenD_t, DL.lenD_f, DL.isD_nn, DL.isD_in, DL.isD_tn, DL.isD_bn, DL.isD_sn, DL.isD_ib, DL.isD_tb, DL.isD_bb, DL.isD_sb, DL.isD_nb, DL.isnD_bb, DL.isi_i, DL.isi_b, DL.isi_t, DL.isi_s, DL.isi_n, DL.isTy_ii, DL.isTy_bi, DL.isTy_ib, DL.isTy_bb, DL.isTy_tt, DL.isTy_it, DL.isTy_bt, DL.isTy_ti, DL.isTy_is, DL.isTy_bs, DL.isTy_ss, DL.isTy_st, DL.isTy_nt, DL.isTy_ns, DL.isTy_ni, DL.isTy_ts, DL.isTy_si, DL.isTy_tb, DL.mulD_i, DL.modD_i, DL.fdivD_i, DL.powD_i, DL.tupD_k, DL.lstD_k, DL.fnD_k, DL.endR_rt, DL.endR_nx, DL.endR_ex, List.map_cons, List.map_nil, List.replicate_succ, List.replicate_zero, List.cons_append, List.nil_append, List.getElem?_cons_zero, List.getElem?_cons_succ, List.set_cons_zero, List.set_cons_succ, Nat.reduceSub, Nat.reduceAdd, List.length_cons, List.length_nil, List.any_cons, List.any_nil, Bool.or_false, Bool.or_true, Bool.not_true, Bool.not_false, Nat.reduceLeDiff, Bool.false_or, Bool.true_or, DL.trim_eq, DL.sFor_k, DL.kFor_0, DL.cSrc_k, DL.kSrc_0, DL.cApp_k, DL.kSrcA_0, DL.srcD_t, DL.srcD_f, DL.eqD_ii, DL.neD_ii, DL.ix_t0, DL.ix_t1, decide_true]
  | n, .int i, s, _ => by
    simp only [F__law_same, S__law_same_0, DL.kSeq_0, DL.kSeq_1, DL.kSeq_2, DL.kSeq_3, DL.kSeq_4, DL.sSeq_k, DL.sSkip_k, DL.sBreak_k, DL.sCont_k, DL.sRetN_k, DL.kExpr_0, DL.kExpr_1, DL.sExpr_k, DL.kRet_0, DL.kRet_1, DL.sRet_k, DL.kIf_0, DL.kIf_1, DL.kIf_2, DL.sIf_k, DL.kAsg2_0, DL.kAsg_0, DL.kAsg_1, DL.sAsg_k, DL.sSet_k, DL.gN_k, DL.gsN_k, DL.kG_0, DL.gsC_k, DL.gT_k, DL.kPut4_0, DL.kPut3_0, DL.kPut3_1, DL.kPut2_0, DL.kPut2_1, DL.kPut_0, DL.kPut_1, DL.sPut_k, DL.sPar_k, DL.kVar_0, DL.eVar_k, DL.eC_k, DL.kUn_0, DL.kUn_1, DL.eUn_k, DL.eIsi_k, DL.kBin2_0, DL.kBin2_1, DL.kBin_0, DL.kBin_1, DL.eBin_k, DL.aNil_k, DL.kCons2_0, DL.kCons2_1, DL.kCons_0, DL.kCons_1, DL.aCons_k, DL.kApp_0, DL.kApp_1, DL.eApp_k, DL.kMt2_0, DL.kMt2_1, DL.kMt1_0, DL.kMt_0, DL.kMt_1, DL.eMt_k, DL.kTru_0, DL.kTru_1, DL.tTru_k, DL.kAnd_0, DL.kAnd_1, DL.kAnd_2, DL.tAndF_k, DL.kOr_0, DL.kOr_1, DL.kOr_2, DL.tOrF_k, DL.kNot_0, DL.kNot_1, DL.kNot_2, DL.tNotF_k, DL.kEIf_0, DL.kEIf_1, DL.kEIf_2, DL.eIf_k, DL.kEAnd2_0, DL.kEAnd2_1, DL.kEAnd2_2, DL.kEAnd_0, DL.kEAnd_1, DL.eAnd_k, DL.kEOr2_0, DL.kEOr2_1, DL.kEOr2_2, DL.kEOr_0, DL.kEOr_1, DL.eOr_k, DL.kENot2_0, DL.kENot2_1, DL.kENot2_2, DL.kENot_0, DL.kENot_1, DL.eNot_k, DL.kSl3_0, DL.kSl3_1, DL.kSl2_0, DL.kSl2_1, DL.kSl_0, DL.kSl_1, DL.eSl_k, DL.oNone_k, DL.kOS_0, DL.kOS_1, DL.oSome_k, DL.kKw2_0, DL.kKw2_1, DL.kKw_0, DL.kKw_1, DL.eKw_k, DL.truD_bl, DL.blD_bl, DL.addD_i, DL.subD_i, DL.ltI_i, DL.leI_i, DL.gtI_i, DL.geI_i, DL.negD_i, DL.intD_i, DL.intD_b, DL.max2D_i, DL.min2D_i, DL.gcdD_i, DL.lenD_t, DL.lenD_f, DL.isD_nn, DL.isD_in, DL.isD_tn, DL.isD_bn, DL.isD_sn, DL.isD_ib, DL.isD_tb, DL.isD_bb, DL.isD_sb, DL.isD_nb, DL.isnD_bb, DL.isi_i, DL.isi_b, DL.isi_t, DL.isi_s, DL.isi_n, DL.isTy_ii, DL.isTy_bi, DL.isTy_ib, DL.isTy_bb, DL.isTy_tt, DL.isTy_it, DL.isTy_bt, DL.isTy_ti, DL.isTy_is, DL.isTy_bs, DL.isTy_ss, DL.isTy_st, DL.isTy_nt, DL.isTy_ns, DL.isTy_ni, DL.isTy_ts, DL.isTy_si, DL.isTy_tb, DL.mulD_i, DL.modD_i, DL.fdivD_i, DL.powD_i, DL.tupD_k, DL.lstD_k, DL.fnD_k, DL.endR_rt, DL.endR_nx, DL.endR_ex, List.map_cons, List.map_nil, List.replicate_succ, List.replicate_zero, List.cons_append, List.nil_append, List.getElem?_cons_zero, List.getElem?_cons_succ, List.set_cons_zero, List.set_cons_succ, Nat.reduceSub, Nat.reduceAdd, List.length_cons, List.length_nil, List.any_cons, List.any_nil, Bool.or_false, Bool.or_true, Bool.not_true, Bool.not_false, Nat.reduceLeDiff, Bool.false_or, Bool.true_or, DL.trim_eq, DL.sFor_k, DL.kFor_0, DL.cSrc_k, DL.kSrc_0, DL.cApp_k, DL.kSrcA_0, DL.srcD_t, DL.srcD_f, DL.eqD_ii, DL.neD_ii, DL.ix_t0, DL.ix_t1]
    simp only [S__law_same_1, S__law_same_2, S__law_same_3, S__law_same_4, DL.kSeq_0, DL.kSeq_1, DL.kSeq_2, DL.kSeq_3, DL.kSeq_4, DL.sSeq_k, DL.sSkip_k, DL.sBreak_k, DL.sCont_k, DL.sRetN_k, DL.kExpr_0, DL.kExpr_1, DL.sExpr_k, DL.kRet_0, DL.kRet_1, DL.sRet_k, DL.kIf_0, DL.kIf_1, DL.kIf_2, DL.sIf_k, DL.kAsg2_0, DL.kAsg_0, DL.kAsg_1, DL.sAsg_k, DL.sSet_k, DL.gN_k, DL.gsN_k, DL.kG_0, DL.gsC_k, DL.gT_k, DL.kPut4_0, DL.kPut3_0, DL.kPut3_1, DL.kPut2_0, DL.kPut2_1, DL.kPut_0, DL.kPut_1, DL.sPut_k, DL.sPar_k, DL.kVar_0, DL.eVar_k, DL.eC_k, DL.kUn_0, DL.kUn_1, DL.eUn_k, DL.eIsi_k, DL.kBin2_0, DL.kBin2_1, DL.kBin_0, DL.kBin_1, DL.eBin_k, DL.aNil_k, DL.kCons2_0, DL.kCons2_1, DL.kCons_0, DL.kCons_1, DL.aCons_k, DL.kApp_0, DL.kApp_1, DL.eApp_k, DL.kMt2_0, DL.kMt2_1, DL.kMt1_0, DL.kMt_0, DL.kMt_1, DL.eMt_k, DL.kTru_0, DL.kTru_1, DL.tTru_k, DL.kAnd_0, DL.kAnd_1, DL.kAnd_2, DL.tAndF_k, DL.kOr_0, DL.kOr_1, DL.kOr_2, DL.tOrF_k, DL.kNot_0, DL.kNot_1, DL.kNot_2, DL.tNotF_k, DL.kEIf_0, DL.kEIf_1, DL.kEIf_2, DL.eIf_k, DL.kEAnd2_0, DL.kEAnd2_1, DL.kEAnd2_2, DL.kEAnd_0, DL.kEAnd_1, DL.eAnd_k, DL.kEOr2_0, DL.kEOr2_1, DL.kEOr2_2, DL.kEOr_0, DL.kEOr_1, DL.eOr_k, DL.kENot2_0, DL.kENot2_1, DL.kENot2_2, DL.kENot_0, DL.kENot_1, DL.eNot_k, DL.kSl3_0, DL.kSl3_1, DL.kSl2_0, DL.kSl2_1, DL.kSl_0, DL.kSl_1, DL.eSl_k, DL.oNone_k, DL.kOS_0, DL.kOS_1, DL.oSome_k, DL.kKw2_0, DL.kKw2_1, DL.kKw_0, DL.kKw_1, DL.eKw_k, DL.truD_bl, DL.blD_bl, DL.addD_i, DL.subD_i, DL.ltI_i, DL.leI_i, DL.gtI_i, DL.geI_i, DL.negD_i, DL.intD_i, DL.intD_b, DL.max2D_i, DL.min2D_i, DL.gcdD_i, DL.lenD_t, DL.lenD_f, DL.isD_nn, DL.isD_in, DL.isD_tn, DL.isD_bn, DL.isD_sn, DL.isD_ib, DL.isD_tb, DL.isD_bb, DL.isD_sb, DL.isD_nb, DL.isnD_bb, DL.isi_i, DL.isi_b, DL.isi_t, DL.isi_s, DL.isi_n, DL.isTy_ii, DL.isTy_bi, DL.isTy_ib, DL.isTy_bb, DL.isTy_tt, DL.isTy_it, DL.isTy_bt, DL.isTy_ti, DL.isTy_is, DL.isTy_bs, DL.isTy_ss, DL.isTy_st, DL.isTy_nt, DL.isTy_ns, DL.isTy_ni, DL.isTy_ts, DL.isTy_si, DL.isTy_tb, DL.mulD_i, DL.modD_i, DL.fdivD_i, DL.powD_i, DL.tupD_k, DL.lstD_k, DL.fnD_k, DL.endR_rt, DL.endR_nx, DL.endR_ex, List.map_cons, List.map_nil, List.replicate_succ, List.replicate_zero, List.cons_append, List.nil_append, List.getElem?_cons_zero, List.getElem?_cons_succ, List.set_cons_zero, List.set_cons_succ, Nat.reduceSub, Nat.reduceAdd, List.length_cons, List.length_nil, List.any_cons, List.any_nil, Bool.or_false, Bool.or_true, Bool.not_true, Bool.not_false, Nat.reduceLeDiff, Bool.false_or, Bool.true_or, DL.trim_eq, DL.sFor_k, DL.kFor_0, DL.cSrc_k, DL.kSrc_0, DL.cApp_k, DL.kSrcA_0, DL.srcD_t, DL.srcD_f, DL.eqD_ii, DL.neD_ii, DL.ix_t0, DL.ix_t1]
    simp only [S__law_same_5, DL.kSeq_0, DL.kSeq_1, DL.kSeq_2, DL.kSeq_3, DL.kSeq_4, DL.sSeq_k, DL.sSkip_k, DL.sBreak_k, DL.sCont_k, DL.sRetN_k, DL.kExpr_0, DL.kExpr_1, DL.sExpr_k, DL.kRet_0, DL.kRet_1, DL.sRet_k, DL.kIf_0, DL.kIf_1, DL.kIf_2, DL.sIf_k, DL.kAsg2_0, DL.kAsg_0, DL.kAsg_1, DL.sAsg_k, DL.sSet_k, DL.gN_k, DL.gsN_k, DL.kG_0, DL.gsC_k, DL.gT_k, DL.kPut4_0, DL.kPut3_0, DL.kPut3_1, DL.kPut2_0, DL.kPut2_1, DL.kPut_0, DL.kPut_1, DL.sPut_k, DL.sPar_k, DL.kVar_0, DL.eVar_k, DL.eC_k, DL.kUn_0, DL.kUn_1, DL.eUn_k, DL.eIsi_k, DL.kBin2_0, DL.kBin2_1, DL.kBin_0, DL.kBin_1, DL.eBin_k, DL.aNil_k, DL.kCons2_0, DL.kCons2_1, DL.kCons_0, DL.kCons_1, DL.aCons_k, DL.kApp_0, DL.kApp_1, DL.eApp_k, DL.kMt2_0, DL.kMt2_1, DL.kMt1_0, DL.kMt_0, DL.kMt_1, DL.eMt_k, DL.kTru_0, DL.kTru_1, DL.tTru_k, DL.kAnd_0, DL.kAnd_1, DL.kAnd_2, DL.tAndF_k, DL.kOr_0, DL.kOr_1, DL.kOr_2, DL.tOrF_k, DL.kNot_0, DL.kNot_1, DL.kNot_2, DL.tNotF_k, DL.kEIf_0, DL.kEIf_1, DL.kEIf_2, DL.eIf_k, DL.kEAnd2_0, DL.kEAnd2_1, DL.kEAnd2_2, DL.kEAnd_0, DL.kEAnd_1, DL.eAnd_k, DL.kEOr2_0, DL.kEOr2_1, DL.kEOr2_2, DL.kEOr_0, DL.kEOr_1, DL.eOr_k, DL.kENot2_0, DL.kENot2_1, DL.kENot2_2, DL.kENot_0, DL.kENot_1, DL.eNot_k, DL.kSl3_0, DL.kSl3_1, DL.kSl2_0, DL.kSl2_1, DL.kSl_0, DL.kSl_1, DL.eSl_k, DL.oNone_k, DL.kOS_0, DL.kOS_1, DL.oSome_k, DL.kKw2_0, DL.kKw2_1, DL.kKw_0, DL.kKw_1, DL.eKw_k, DL.truD_bl, DL.blD_bl, DL.addD_i, DL.subD_i, DL.ltI_i, DL.leI_i, DL.gtI_i, DL.geI_i, DL.negD_i, DL.intD_i, DL.intD_b, DL.max2D_i, DL.min2D_i, DL.gcdD_i, DL.lenD_t, DL.lenD_f, DL.isD_nn, DL.isD_in, DL.isD_tn, DL.isD_bn, DL.isD_sn, DL.isD_ib, DL.isD_tb, DL.isD_bb, DL.isD_sb, DL.isD_nb, DL.isnD_bb, DL.isi_i, DL.isi_b, DL.isi_t, DL.isi_s, DL.isi_n, DL.isTy_ii, DL.isTy_bi, DL.isTy_ib, DL.isTy_bb, DL.isTy_tt, DL.isTy_it, DL.isTy_bt, DL.isTy_ti, DL.isTy_is, DL.isTy_bs, DL.isTy_ss, DL.isTy_st, DL.isTy_nt, DL.isTy_ns, DL.isTy_ni, DL.isTy_ts, DL.isTy_si, DL.isTy_tb, DL.mulD_i, DL.modD_i, DL.fdivD_i, DL.powD_i, DL.tupD_k, DL.lstD_k, DL.fnD_k, DL.endR_rt, DL.endR_nx, DL.endR_ex, List.map_cons, List.map_nil, List.replicate_succ, List.replicate_zero, List.cons_append, List.nil_append, List.getElem?_cons_zero, List.getElem?_cons_succ, List.set_cons_zero, List.set_cons_succ, Nat.reduceSub, Nat.reduceAdd, List.length_cons, List.length_nil, List.any_cons, List.any_nil, Bool.or_false, Bool.or_true, Bool.not_true, Bool.not_false, Nat.reduceLeDiff, Bool.false_or, Bool.true_or, DL.trim_eq, DL.sFor_k, DL.kFor_0, DL.cSrc_k, DL.kSrc_0, DL.cApp_k, DL.kSrcA_0, DL.srcD_t, DL.srcD_f, DL.eqD_ii, DL.neD_ii, DL.ix_t0, DL.ix_t1, beq_self_eq_true]
  | n + 1, .tup xs, s, h => by
    unfold gd at h
    obtain ⟨h1, h2⟩ := Bool.and_eq_true_iff.mp h
    have hz := of_decide_eq_true h1
    have hx : ∀ x ∈ xs, gd n x = true := List.all_eq_true.mp h2
    have rg := rng1D_i (n := xs.length) s (by omega) (by omega)
    have lc := lc_pure (c := cApp rng1D (aCons (eApp lenD (aCons (eVar 1) aNil)) aNil)) (g := gN 2) (t := tYesF) (e := eApp (F__law_same (n + 1)) (aCons (eBin ixD (eVar 0) (eVar 2)) (aCons (eBin ixD (eVar 1) (eVar 2)) aNil))) (vs := [2]) (f := fun _ => .bl true) (ρ := [.d (.tup xs), .d (.tup xs), .un]) (s := s) (s1 := s) (by simp only [DL.kSeq_0, DL.kSeq_1, DL.kSeq_2, DL.kSeq_3, DL.kSeq_4, DL.sSeq_k, DL.sSkip_k, DL.sBreak_k, DL.sCont_k, DL.sRetN_k, DL.kExpr_0, DL.kExpr_1, DL.sExpr_k, DL.kRet_0, DL.kRet_1, DL.sRet_k, DL.kIf_0, DL.kIf_1, DL.kIf_2, DL.sIf_k, DL.kAsg2_0, DL.kAsg_0, DL.kAsg_1, DL.sAsg_k, DL.sSet_k, DL.gN_k, DL.gsN_k, DL.kG_0, DL.gsC_k, DL.gT_k, DL.kPut4_0, DL.kPut3_0, DL.kPut3_1, DL.kPut2_0, DL.kPut2_1, DL.kPut_0, DL.kPut_1, DL.sPut_k, DL.sPar_k, DL.kVar_0, DL.eVar_k, DL.eC_k, DL.kUn_0, DL.kUn_1, DL.eUn_k, DL.eIsi_k, DL.kBin2_0, DL.kBin2_1, DL.kBin_0, DL.kBin_1, DL.eBin_k, DL.aNil_k, DL.kCons2_0, DL.kCons2_1, DL.kCons_0, DL.kCons_1, DL.aCons_k, DL.kApp_0, DL.kApp_1, DL.eApp_k, DL.kMt2_0, DL.kMt2_1, DL.kMt1_0, DL.kMt_0, DL.kMt_1, DL.eMt_k, DL.kTru_0, DL.kTru_1, DL.tTru_k, DL.kAnd_0, DL.kAnd_1, DL.kAnd_2, DL.tAndF_k, DL.kOr_0, DL.kOr_1, DL.kOr_2, DL.tOrF_k, DL.kNot_0, DL.kNot_1, DL.kNot_2, DL.tNotF_k, DL.kEIf_0, DL.kEIf_1, DL.kEIf_2, DL.eIf_k, DL.kEAnd2_0, DL.kEAnd2_1, DL.kEAnd2_2, DL.kEAnd_0, DL.kEAnd_1, DL.eAnd_k, DL.kEOr2_0, DL.kEOr2_1, DL.kEOr2_2, DL.kEOr_0, DL.kEOr_1, DL.eOr_k, DL.kENot2_0, DL.kENot2_1, DL.kENot2_2, DL.kENot_0, DL.kENot_1, DL.eNot_k, DL.kSl3_0, DL.kSl3_1, DL.kSl2_0, DL.kSl2_1, DL.kSl_0, DL.kSl_1, DL.eSl_k, DL.oNone_k, DL.kOS_0, DL.kOS_1, DL.oSome_k, DL.kKw2_0, DL.kKw2_1, DL.kKw_0, DL.kKw_1, DL.eKw_k, DL.truD_bl, DL.blD_bl, DL.addD_i, DL.subD_i, DL.ltI_i, DL.leI_i, DL.gtI_i, DL.geI_i, DL.negD_i, DL.intD_i, DL.intD_b, DL.max2D_i, DL.min2D_i, DL.gcdD_i, DL.lenD_t, DL.lenD_f, DL.isD_nn, DL.isD_in, DL.isD_tn, DL.isD_bn, DL.isD_sn, DL.isD_ib, DL.isD_tb, DL.isD_bb, DL.isD_sb, DL.isD_nb, DL.isnD_bb, DL.isi_i, DL.isi_b, DL.isi_t, DL.isi_s, DL.isi_n, DL.isTy_ii, DL.isTy_bi, DL.isTy_ib, DL.isTy_bb, DL.isTy_tt, DL.isTy_it, DL.isTy_bt, DL.isTy_ti, DL.isTy_is, DL.isTy_bs, DL.isTy_ss, DL.isTy_st, DL.isTy_nt, DL.isTy_ns, DL.isTy_ni, DL.isTy_ts, DL.isTy_si, DL.isTy_tb, DL.mulD_i, DL.modD_i, DL.fdivD_i, DL.powD_i, DL.tupD_k, DL.lstD_k, DL.fnD_k, DL.endR_rt, DL.endR_nx, DL.endR_ex, List.map_cons, List.map_nil, List.replicate_succ, List.replicate_zero, List.cons_append, List.nil_append, List.getElem?_cons_zero, List.getElem?_cons_succ, List.set_cons_zero, List.set_cons_succ, Nat.reduceSub, Nat.reduceAdd, List.length_cons, List.length_nil, List.any_cons, List.any_nil, Bool.or_false, Bool.or_true, Bool.not_true, Bool.not_false, Nat.reduceLeDiff, Bool.false_or, Bool.true_or, DL.trim_eq, DL.sFor_k, DL.kFor_0, DL.cSrc_k, DL.kSrc_0, DL.cApp_k, DL.kSrcA_0, DL.srcD_t, DL.srcD_f, DL.eqD_ii, DL.neD_ii, DL.ix_t0, DL.ix_t1]; exact rg) (by simpa using hz) fun x hx' => by
      obtain ⟨i, hi, rfl⟩ := List.mem_map.mp hx'
      have hi : i < xs.length := by simpa using hi
      refine ⟨[.d (.tup xs), .d (.tup xs), .d (.int i)], rfl, fun acc => ⟨rfl, ?_⟩⟩
      have ix : ixD (.tup xs) (.int i) (s ++ [.lst acc]) = .ok xs[i] (s ++ [.lst acc]) := by
        have ha : atI xs (i : Int) = some xs[i] := by
          unfold atI
          rw [ixN_nn (by omega) (by omega)]
          simp [hi]
        simp [ixD, ha]
      simp only [DL.kSeq_0, DL.kSeq_1, DL.kSeq_2, DL.kSeq_3, DL.kSeq_4, DL.sSeq_k, DL.sSkip_k, DL.sBreak_k, DL.sCont_k, DL.sRetN_k, DL.kExpr_0, DL.kExpr_1, DL.sExpr_k, DL.kRet_0, DL.kRet_1, DL.sRet_k, DL.kIf_0, DL.kIf_1, DL.kIf_2, DL.sIf_k, DL.kAsg2_0, DL.kAsg_0, DL.kAsg_1, DL.sAsg_k, DL.sSet_k, DL.gN_k, DL.gsN_k, DL.kG_0, DL.gsC_k, DL.gT_k, DL.kPut4_0, DL.kPut3_0, DL.kPut3_1, DL.kPut2_0, DL.kPut2_1, DL.kPut_0, DL.kPut_1, DL.sPut_k, DL.sPar_k, DL.kVar_0, DL.eVar_k, DL.eC_k, DL.kUn_0, DL.kUn_1, DL.eUn_k, DL.eIsi_k, DL.kBin2_0, DL.kBin2_1, DL.kBin_0, DL.kBin_1, DL.eBin_k, DL.aNil_k, DL.kCons2_0, DL.kCons2_1, DL.kCons_0, DL.kCons_1, DL.aCons_k, DL.kApp_0, DL.kApp_1, DL.eApp_k, DL.kMt2_0, DL.kMt2_1, DL.kMt1_0, DL.kMt_0, DL.kMt_1, DL.eMt_k, DL.kTru_0, DL.kTru_1, DL.tTru_k, DL.kAnd_0, DL.kAnd_1, DL.kAnd_2, DL.tAndF_k, DL.kOr_0, DL.kOr_1, DL.kOr_2, DL.tOrF_k, DL.kNot_0, DL.kNot_1, DL.kNot_2, DL.tNotF_k, DL.kEIf_0, DL.kEIf_1, DL.kEIf_2, DL.eIf_k, DL.kEAnd2_0, DL.kEAnd2_1, DL.kEAnd2_2, DL.kEAnd_0, DL.kEAnd_1, DL.eAnd_k, DL.kEOr2_0, DL.kEOr2_1, DL.kEOr2_2, DL.kEOr_0, DL.kEOr_1, DL.eOr_k, DL.kENot2_0, DL.kENot2_1, DL.kENot2_2, DL.kENot_0, DL.kENot_1, DL.eNot_k, DL.kSl3_0, DL.kSl3_1, DL.kSl2_0, DL.kSl2_1, DL.kSl_0, DL.kSl_1, DL.eSl_k, DL.oNone_k, DL.kOS_0, DL.kOS_1, DL.oSome_k, DL.kKw2_0, DL.kKw2_1, DL.kKw_0, DL.kKw_1, DL.eKw_k, DL.truD_bl, DL.blD_bl, DL.addD_i, DL.subD_i, DL.ltI_i, DL.leI_i, DL.gtI_i, DL.geI_i, DL.negD_i, DL.intD_i, DL.intD_b, DL.max2D_i, DL.min2D_i, DL.gcdD_i, DL.lenD_t, DL.lenD_f, DL.isD_nn, DL.isD_in, DL.isD_tn, DL.isD_bn, DL.isD_sn, DL.isD_ib, DL.isD_tb, DL.isD_bb, DL.isD_sb, DL.isD_nb, DL.isnD_bb, DL.isi_i, DL.isi_b, DL.isi_t, DL.isi_s, DL.isi_n, DL.isTy_ii, DL.isTy_bi, DL.isTy_ib, DL.isTy_bb, DL.isTy_tt, DL.isTy_it, DL.isTy_bt, DL.isTy_ti, DL.isTy_is, DL.isTy_bs, DL.isTy_ss, DL.isTy_st, DL.isTy_nt, DL.isTy_ns, DL.isTy_ni, DL.isTy_ts, DL.isTy_si, DL.isTy_tb, DL.mulD_i, DL.modD_i, DL.fdivD_i, DL.powD_i, DL.tupD_k, DL.lstD_k, DL.fnD_k, DL.endR_rt, DL.endR_nx, DL.endR_ex, List.map_cons, List.map_nil, List.replicate_succ, List.replicate_zero, List.cons_append, List.nil_append, List.getElem?_cons_zero, List.getElem?_cons_succ, List.set_cons_zero, List.set_cons_succ, Nat.reduceSub, Nat.reduceAdd, List.length_cons, List.length_nil, List.any_cons, List.any_nil, Bool.or_false, Bool.or_true, Bool.not_true, Bool.not_false, Nat.reduceLeDiff, Bool.false_or, Bool.true_or, DL.trim_eq, DL.sFor_k, DL.kFor_0, DL.cSrc_k, DL.kSrc_0, DL.cApp_k, DL.kSrcA_0, DL.srcD_t, DL.srcD_f, DL.eqD_ii, DL.neD_ii, DL.ix_t0, DL.ix_t1, ix, same_refl n xs[i] _ (hx _ (List.getElem_mem hi))]
    generalize hL : (((List.range (xs.length : Int).toNat).map fun (i : Nat) => D.int (i : Int))).map (fun _ => D.bl true) = L at lc
    have al : allD [.loc s.length] (s ++ [.lst L]) = .ok (.bl true) (s ++ [.lst L]) := allD_true (l := L) (by simp) (by
      intro y hy
      rw [← hL] at hy
      obtain ⟨_, _, rfl⟩ := List.mem_map.mp hy
      rfl)
    rw [F__law_same]
    simp only [S__law_same_0, S__law_same_1, S__law_same_2, DL.kSeq_0, DL.kSeq_1, DL.kSeq_2, DL.kSeq_3, DL.kSeq_4, DL.sSeq_k, DL.sSkip_k, DL.sBreak_k, DL.sCont_k, DL.sRetN_k, DL.kExpr_0, DL.kExpr_1, DL.sExpr_k, DL.kRet_0, DL.kRet_1, DL.sRet_k, DL.kIf_0, DL.kIf_1, DL.kIf_2, DL.sIf_k, DL.kAsg2_0, DL.kAsg_0, DL.kAsg_1, DL.sAsg_k, DL.sSet_k, DL.gN_k, DL.gsN_k, DL.kG_0, DL.gsC_k, DL.gT_k, DL.kPut4_0, DL.kPut3_0, DL.kPut3_1, DL.kPut2_0, DL.kPut2_1, DL.kPut_0, DL.kPut_1, DL.sPut_k, DL.sPar_k, DL.kVar_0, DL.eVar_k, DL.eC_k, DL.kUn_0, DL.kUn_1, DL.eUn_k, DL.eIsi_k, DL.kBin2_0, DL.kBin2_1, DL.kBin_0, DL.kBin_1, DL.eBin_k, DL.aNil_k, DL.kCons2_0, DL.kCons2_1, DL.kCons_0, DL.kCons_1, DL.aCons_k, DL.kApp_0, DL.kApp_1, DL.eApp_k, DL.kMt2_0, DL.kMt2_1, DL.kMt1_0, DL.kMt_0, DL.kMt_1, DL.eMt_k, DL.kTru_0, DL.kTru_1, DL.tTru_k, DL.kAnd_0, DL.kAnd_1, DL.kAnd_2, DL.tAndF_k, DL.kOr_0, DL.kOr_1, DL.kOr_2, DL.tOrF_k, DL.kNot_0, DL.kNot_1, DL.kNot_2, DL.tNotF_k, DL.kEIf_0, DL.kEIf_1, DL.kEIf_2, DL.eIf_k, DL.kEAnd2_0, DL.kEAnd2_1, DL.kEAnd2_2, DL.kEAnd_0, DL.kEAnd_1, DL.eAnd_k, DL.kEOr2_0, DL.kEOr2_1, DL.kEOr2_2, DL.kEOr_0, DL.kEOr_1, DL.eOr_k, DL.kENot2_0, DL.kENot2_1, DL.kENot2_2, DL.kENot_0, DL.kENot_1, DL.eNot_k, DL.kSl3_0, DL.kSl3_1, DL.kSl2_0, DL.kSl2_1, DL.kSl_0, DL.kSl_1, DL.eSl_k, DL.oNone_k, DL.kOS_0, DL.kOS_1, DL.oSome_k, DL.kKw2_0, DL.kKw2_1, DL.kKw_0, DL.kKw_1, DL.eKw_k, DL.truD_bl, DL.blD_bl, DL.addD_i, DL.subD_i, DL.ltI_i, DL.leI_i, DL.gtI_i, DL.geI_i, DL.negD_i, DL.intD_i, DL.intD_b, DL.max2D_i, DL.min2D_i, DL.gcdD_i, DL.lenD_t, DL.lenD_f, DL.isD_nn, DL.isD_in, DL.isD_tn, DL.isD_bn, DL.isD_sn, DL.isD_ib, DL.isD_tb, DL.isD_bb, DL.isD_sb, DL.isD_nb, DL.isnD_bb, DL.isi_i, DL.isi_b, DL.isi_t, DL.isi_s, DL.isi_n, DL.isTy_ii, DL.isTy_bi, DL.isTy_ib, DL.isTy_bb, DL.isTy_tt, DL.isTy_it, DL.isTy_bt, DL.isTy_ti, DL.isTy_is, DL.isTy_bs, DL.isTy_ss, DL.isTy_st, DL.isTy_nt, DL.isTy_ns, DL.isTy_ni, DL.isTy_ts, DL.isTy_si, DL.isTy_tb, DL.mulD_i, DL.modD_i, DL.fdivD_i, DL.powD_i, DL.tupD_k, DL.lstD_k, DL.fnD_k, DL.endR_rt, DL.endR_nx, DL.endR_ex, List.map_cons, List.map_nil, List.replicate_succ, List.replicate_zero, List.cons_append, List.nil_append, List.getElem?_cons_zero, List.getElem?_cons_succ, List.set_cons_zero, List.set_cons_succ, Nat.reduceSub, Nat.reduceAdd, List.length_cons, List.length_nil, List.any_cons, List.any_nil, Bool.or_false, Bool.or_true, Bool.not_true, Bool.not_false, Nat.reduceLeDiff, Bool.false_or, Bool.true_or, DL.trim_eq, DL.sFor_k, DL.kFor_0, DL.cSrc_k, DL.kSrc_0, DL.cApp_k, DL.kSrcA_0, DL.srcD_t, DL.srcD_f, DL.eqD_ii, DL.neD_ii, DL.ix_t0, DL.ix_t1]
    simp only [S__law_same_3, DL.kSeq_0, DL.kSeq_1, DL.kSeq_2, DL.kSeq_3, DL.kSeq_4, DL.sSeq_k, DL.sSkip_k, DL.sBreak_k, DL.sCont_k, DL.sRetN_k, DL.kExpr_0, DL.kExpr_1, DL.sExpr_k, DL.kRet_0, DL.kRet_1, DL.sRet_k, DL.kIf_0, DL.kIf_1, DL.kIf_2, DL.sIf_k, DL.kAsg2_0, DL.kAsg_0, DL.kAsg_1, DL.sAsg_k, DL.sSet_k, DL.gN_k, DL.gsN_k, DL.kG_0, DL.gsC_k, DL.gT_k, DL.kPut4_0, DL.kPut3_0, DL.kPut3_1, DL.kPut2_0, DL.kPut2_1, DL.kPut_0, DL.kPut_1, DL.sPut_k, DL.sPar_k, DL.kVar_0, DL.eVar_k, DL.eC_k, DL.kUn_0, DL.kUn_1, DL.eUn_k, DL.eIsi_k, DL.kBin2_0, DL.kBin2_1, DL.kBin_0, DL.kBin_1, DL.eBin_k, DL.aNil_k, DL.kCons2_0, DL.kCons2_1, DL.kCons_0, DL.kCons_1, DL.aCons_k, DL.kApp_0, DL.kApp_1, DL.eApp_k, DL.kMt2_0, DL.kMt2_1, DL.kMt1_0, DL.kMt_0, DL.kMt_1, DL.eMt_k, DL.kTru_0, DL.kTru_1, DL.tTru_k, DL.kAnd_0, DL.kAnd_1, DL.kAnd_2, DL.tAndF_k, DL.kOr_0, DL.kOr_1, DL.kOr_2, DL.tOrF_k, DL.kNot_0, DL.kNot_1, DL.kNot_2, DL.tNotF_k, DL.kEIf_0, DL.kEIf_1, DL.kEIf_2, DL.eIf_k, DL.kEAnd2_0, DL.kEAnd2_1, DL.kEAnd2_2, DL.kEAnd_0, DL.kEAnd_1, DL.eAnd_k, DL.kEOr2_0, DL.kEOr2_1, DL.kEOr2_2, DL.kEOr_0, DL.kEOr_1, DL.eOr_k, DL.kENot2_0, DL.kENot2_1, DL.kENot2_2, DL.kENot_0, DL.kENot_1, DL.eNot_k, DL.kSl3_0, DL.kSl3_1, DL.kSl2_0, DL.kSl2_1, DL.kSl_0, DL.kSl_1, DL.eSl_k, DL.oNone_k, DL.kOS_0, DL.kOS_1, DL.oSome_k, DL.kKw2_0, DL.kKw2_1, DL.kKw_0, DL.kKw_1, DL.eKw_k, DL.truD_bl, DL.blD_bl, DL.addD_i, DL.subD_i, DL.ltI_i, DL.leI_i, DL.gtI_i, DL.geI_i, DL.negD_i, DL.intD_i, DL.intD_b, DL.max2D_i, DL.min2D_i, DL.gcdD_i, DL.lenD_t, DL.lenD_f, DL.isD_nn, DL.isD_in, DL.isD_tn, DL.isD_bn, DL.isD_sn, DL.isD_ib, DL.isD_tb, DL.isD_bb, DL.isD_sb, DL.isD_nb, DL.isnD_bb, DL.isi_i, DL.isi_b, DL.isi_t, DL.isi_s, DL.isi_n, DL.isTy_ii, DL.isTy_bi, DL.isTy_ib, DL.isTy_bb, DL.isTy_tt, DL.isTy_it, DL.isTy_bt, DL.isTy_ti, DL.isTy_is, DL.isTy_bs, DL.isTy_ss, DL.isTy_st, DL.isTy_nt, DL.isTy_ns, DL.isTy_ni, DL.isTy_ts, DL.isTy_si, DL.isTy_tb, DL.mulD_i, DL.modD_i, DL.fdivD_i, DL.powD_i, DL.tupD_k, DL.lstD_k, DL.fnD_k, DL.endR_rt, DL.endR_nx, DL.endR_ex, List.map_cons, List.map_nil, List.replicate_succ, List.replicate_zero, List.cons_append, List.nil_append, List.getElem?_cons_zero, List.getElem?_cons_succ, List.set_cons_zero, List.set_cons_succ, Nat.reduceSub, Nat.reduceAdd, List.length_cons, List.length_nil, List.any_cons, List.any_nil, Bool.or_false, Bool.or_true, Bool.not_true, Bool.not_false, Nat.reduceLeDiff, Bool.false_or, Bool.true_or, DL.trim_eq, DL.sFor_k, DL.kFor_0, DL.cSrc_k, DL.kSrc_0, DL.cApp_k, DL.kSrcA_0, DL.srcD_t, DL.srcD_f, DL.eqD_ii, DL.neD_ii, DL.ix_t0, DL.ix_t1, beq_self_eq_true, lc, al]
    simp only [DL.kSeq_0, DL.kSeq_1, DL.kSeq_2, DL.kSeq_3, DL.kSeq_4, DL.sSeq_k, DL.sSkip_k, DL.sBreak_k, DL.sCont_k, DL.sRetN_k, DL.kExpr_0, DL.kExpr_1, DL.sExpr_k, DL.kRet_0, DL.kRet_1, DL.sRet_k, DL.kIf_0, DL.kIf_1, DL.kIf_2, DL.sIf_k, DL.kAsg2_0, DL.kAsg_0, DL.kAsg_1, DL.sAsg_k, DL.sSet_k, DL.gN_k, DL.gsN_k, DL.kG_0, DL.gsC_k, DL.gT_k, DL.kPut4_0, DL.kPut3_0, DL.kPut3_1, DL.kPut2_0, DL.kPut2_1, DL.kPut_0, DL.kPut_1, DL.sPut_k, DL.sPar_k, DL.kVar_0, DL.eVar_k, DL.eC_k, DL.kUn_0, DL.kUn_1, DL.eUn_k, DL.eIsi_k, DL.kBin2_0, DL.kBin2_1, DL.kBin_0, DL.kBin_1, DL.eBin_k, DL.aNil_k, DL.kCons2_0, DL.kCons2_1, DL.kCons_0, DL.kCons_1, DL.aCons_k, DL.kApp_0, DL.kApp_1, DL.eApp_k, DL.kMt2_0, DL.kMt2_1, DL.kMt1_0, DL.kMt_0, DL.kMt_1, DL.eMt_k, DL.kTru_0, DL.kTru_1, DL.tTru_k, DL.kAnd_0, DL.kAnd_1, DL.kAnd_2, DL.tAndF_k, DL.kOr_0, DL.kOr_1, DL.kOr_2, DL.tOrF_k, DL.kNot_0, DL.kNot_1, DL.kNot_2, DL.tNotF_k, DL.kEIf_0, DL.kEIf_1, DL.kEIf_2, DL.eIf_k, DL.kEAnd2_0, DL.kEAnd2_1, DL.kEAnd2_2, DL.kEAnd_0, DL.kEAnd_1, DL.eAnd_k, DL.kEOr2_0, DL.kEOr2_1, DL.kEOr2_2, DL.kEOr_0, DL.kEOr_1, DL.eOr_k, DL.kENot2_0, DL.kENot2_1, DL.kENot2_2, DL.kENot_0, DL.kENot_1, DL.eNot_k, DL.kSl3_0, DL.kSl3_1, DL.kSl2_0, DL.kSl2_1, DL.kSl_0, DL.kSl_1, DL.eSl_k, DL.oNone_k, DL.kOS_0, DL.kOS_1, DL.oSome_k, DL.kKw2_0, DL.kKw2_1, DL.kKw_0, DL.kKw_1, DL.eKw_k, DL.truD_bl, DL.blD_bl, DL.addD_i, DL.subD_i, DL.ltI_i, DL.leI_i, DL.gtI_i, DL.geI_i, DL.negD_i, DL.intD_i, DL.intD_b, DL.max2D_i, DL.min2D_i, DL.gcdD_i, DL.lenD_t, DL.lenD_f, DL.isD_nn, DL.isD_in, DL.isD_tn, DL.isD_bn, DL.isD_sn, DL.isD_ib, DL.isD_tb, DL.isD_bb, DL.isD_sb, DL.isD_nb, DL.isnD_bb, DL.isi_i, DL.isi_b, DL.isi_t, DL.isi_s, DL.isi_n, DL.isTy_ii, DL.isTy_bi, DL.isTy_ib, DL.isTy_bb, DL.isTy_tt, DL.isTy_it, DL.isTy_bt, DL.isTy_ti, DL.isTy_is, DL.isTy_bs, DL.isTy_ss, DL.isTy_st, DL.isTy_nt, DL.isTy_ns, DL.isTy_ni, DL.isTy_ts, DL.isTy_si, DL.isTy_tb, DL.mulD_i, DL.modD_i, DL.fdivD_i, DL.powD_i, DL.tupD_k, DL.lstD_k, DL.fnD_k, DL.endR_rt, DL.endR_nx, DL.endR_ex, List.map_cons, List.map_nil, List.replicate_succ, List.replicate_zero, List.cons_append, List.nil_append, List.getElem?_cons_zero, List.getElem?_cons_succ, List.set_cons_zero, List.set_cons_succ, Nat.reduceSub, Nat.reduceAdd, List.length_cons, List.length_nil, List.any_cons, List.any_nil, Bool.or_false, Bool.or_true, Bool.not_true, Bool.not_false, Nat.reduceLeDiff, Bool.false_or, Bool.true_or, DL.trim_eq, DL.sFor_k, DL.kFor_0, DL.cSrc_k, DL.kSrc_0, DL.cApp_k, DL.kSrcA_0, DL.srcD_t, DL.srcD_f, DL.eqD_ii, DL.neD_ii, DL.ix_t0, DL.ix_t1, trim_app s _ (show D.flat (.bl true) = true from rfl)]
  | n, .str x, s, h => by cases n <;> simp [gd] at h
  | n, .fls x, s, h => by cases n <;> simp [gd] at h
  | n, .loc x, s, h => by cases n <;> simp [gd] at h
  | 0, .tup x, s, h => by simp [gd] at h

/-! ### the box is made -/
theorem cut_all {α : Type} (xs : List α) (h : xs.length ≤ 63) : cutG xs none (some 63) = xs := by
  unfold cutG
  have e1 : HT.sIx xs.length 0 none = 0 := rfl
  have e2 : HT.sIx xs.length xs.length (some 63) = xs.length := by
    have := HT.sIx_nat xs.length xs.length 63
    rw [show ((63 : Nat) : Int) = 63 from rfl] at this
    rw [this]; omega
  rw [e1, e2]
  simp
theorem trim_loc (n : Nat) (s s' : Sto) : trimR s (.ok (.loc n) s') = .ok (.loc n) s' := by
  unfold trimR
  dsimp only
  rw [if_neg (fun h => by have := h.1; simp [D.flat] at this)]
theorem bits_lt {z : Int} (h : Builtin.Int.intBits z ≤ 1048576) : z.natAbs < 2 ^ 1048577 := by
  rw [Builtin.Int.intBits] at h
  have l := @Nat.lt_log2_self z.natAbs
  by_cases e : (z == 0) = true
  · have : z = 0 := by simpa using e
    subst this
    exact Nat.two_pow_pos _
  · rw [if_neg e] at h
    exact Nat.lt_of_lt_of_le l (Nat.pow_le_pow_right (by decide) (by omega))
theorem p1018 (s : Sto) : powD (.int 10) (.int 18) s = .ok (.int 1000000000000000000) s := powD_i 10 18 s (by decide)
theorem box_ok (ns : List Int) (hl : ns.length ≤ 63) (hb : ∀ z ∈ ns, Builtin.Int.intBits z ≤ 1048576) : ∃ s, F__law_box [.fls (ns.map D.int)] [] = .ok (.loc 3) s ∧ Box s 3 0 (2 ^ 59) ∧ s.length = 4 := by
  have cut : cutG (ns.map D.int) none (some 63) = ns.map D.int := cut_all _ (by simpa using hl)
  have sl : ∀ s : Sto, slD (.fls (ns.map D.int)) none (some 63) s = .ok (.loc s.length) (s ++ [.lst (ns.map D.int)]) := fun s => by
    show R.ok (D.loc s.length) (s ++ [.lst (cutG (ns.map D.int) none (some 63))]) = _
    rw [cut]
  have ln : lenD [.loc 1] [Cell.lst [], Cell.lst (ns.map D.int)] = .ok (.int ns.length) [Cell.lst [], Cell.lst (ns.map D.int)] := by simp [lenD]
  obtain ⟨ρ', s', e, hI⟩ := for_inv (S := .cell 2 (ns.map D.int)) (g := gN 3) (F := L__law_box_0) (fun r ρ s => ∃ (gs zs : List Int) (st : Int) (c : Sl), r = zs.map D.int ∧ (∀ z ∈ zs, z ∈ ns) ∧ gs.length + zs.length ≤ 63 ∧ st.natAbs < 2 ^ 32 ∧ s = [Cell.lst (gs.map D.int), Cell.lst (ns.map D.int), Cell.lst (ns.map D.int)] ∧ ρ = [.d (.fls (ns.map D.int)), .d (.loc 0), .d (.int st), c])
    (fun r ρ s ⟨gs, zs, st, c, _, _, _, _, e, _⟩ => by rw [e]; rfl) (fun x r ρ s ⟨gs, zs, st, c, e1, e2, e3, e4, e5, e6⟩ => by
      cases zs with
      | nil => cases e1
      | cons z zs =>
        rw [List.map_cons] at e1
        obtain ⟨e7, e8⟩ := List.cons.inj e1
        subst e5 e6 e7 e8
        have hz := e2 z (by simp)
        by_cases h : 1000000000000000000 ≤ z
        · have ty : tyD "list" (.loc 0) [Cell.lst (gs.map D.int), Cell.lst (ns.map D.int), Cell.lst (ns.map D.int)] = true := by simp [tyD]
          have ap : appD (.loc 0) [.int z] [Cell.lst (gs.map D.int), Cell.lst (ns.map D.int), Cell.lst (ns.map D.int)] = .ok .non [Cell.lst ((gs ++ [z]).map D.int), Cell.lst (ns.map D.int), Cell.lst (ns.map D.int)] := by
            simp only [List.length_cons] at e3
            simp [appD, show gs.length < 100000 by omega]
          refine ⟨_, rfl, _, _, .inl (by simp only [L__law_box_0, DL.kSeq_0, DL.kSeq_1, DL.kSeq_2, DL.kSeq_3, DL.kSeq_4, DL.sSeq_k, DL.sSkip_k, DL.sBreak_k, DL.sCont_k, DL.sRetN_k, DL.kExpr_0, DL.kExpr_1, DL.sExpr_k, DL.kRet_0, DL.kRet_1, DL.sRet_k, DL.kIf_0, DL.kIf_1, DL.kIf_2, DL.sIf_k, DL.kAsg2_0, DL.kAsg_0, DL.kAsg_1, DL.sAsg_k, DL.sSet_k, DL.gN_k, DL.gsN_k, DL.kG_0, DL.gsC_k, DL.gT_k, DL.kPut4_0, DL.kPut3_0, DL.kPut3_1, DL.kPut2_0, DL.kPut2_1, DL.kPut_0, DL.kPut_1, DL.sPut_k, DL.sPar_k, DL.kVar_0, DL.eVar_k, DL.eC_k, DL.kUn_0, DL.kUn_1, DL.eUn_k, DL.eIsi_k, DL.kBin2_0, DL.kBin2_1, DL.kBin_0, DL.kBin_1, DL.eBin_k, DL.aNil_k, DL.kCons2_0, DL.kCons2_1, DL.kCons_0, DL.kCons_1, DL.aCons_k, DL.kApp_0, DL.kApp_1, DL.eApp_k, DL.kMt2_0, DL.kMt2_1, DL.kMt1_0, DL.kMt_0, DL.kMt_1, DL.eMt_k, DL.kTru_0, DL.kTru_1, DL.tTru_k, DL.kAnd_0, DL.kAnd_1, DL.kAnd_2, DL.tAndF_k, DL.kOr_0, DL.kOr_1, DL.kOr_2, DL.tOrF_k, DL.kNot_0, DL.kNot_1, DL.kNot_2, DL.tNotF_k, DL.kEIf_0, DL.kEIf_1, DL.kEIf_2, DL.eIf_k, DL.kEAnd2_0, DL.kEAnd2_1, DL.kEAnd2_2, DL.kEAnd_0, DL.kEAnd_1, DL.eAnd_k, DL.kEOr2_0, DL.kEOr2_1, DL.kEOr2_2, DL.kEOr_0, DL.kEOr_1, DL.eOr_k, DL.kENot2_0, DL.kENot2_1, DL.kENot2_2, DL.kENot_0, DL.kENot_1, DL.eNot_k, DL.kSl3_0, DL.kSl3_1, DL.kSl2_0, DL.kSl2_1, DL.kSl_0, DL.kSl_1, DL.eSl_k, DL.oNone_k, DL.kOS_0, DL.kOS_1, DL.oSome_k, DL.kKw2_0, DL.kKw2_1, DL.kKw_0, DL.kKw_1, DL.eKw_k, DL.truD_bl, DL.blD_bl, DL.addD_i, DL.subD_i, DL.ltI_i, DL.leI_i, DL.gtI_i, DL.geI_i, DL.negD_i, DL.intD_i, DL.intD_b, DL.max2D_i, DL.min2D_i, DL.gcdD_i, DL.lenD_t, DL.lenD_f, DL.isD_nn, DL.isD_in, DL.isD_tn, DL.isD_bn, DL.isD_sn, DL.isD_ib, DL.isD_tb, DL.isD_bb, DL.isD_sb, DL.isD_nb, DL.isnD_bb, DL.isi_i, DL.isi_b, DL.isi_t, DL.isi_s, DL.isi_n, DL.isTy_ii, DL.isTy_bi, DL.isTy_ib, DL.isTy_bb, DL.isTy_tt, DL.isTy_it, DL.isTy_bt, DL.isTy_ti, DL.isTy_is, DL.isTy_bs, DL.isTy_ss, DL.isTy_st, DL.isTy_nt, DL.isTy_ns, DL.isTy_ni, DL.isTy_ts, DL.isTy_si, DL.isTy_tb, DL.mulD_i, DL.modD_i, DL.fdivD_i, DL.powD_i, DL.tupD_k, DL.lstD_k, DL.fnD_k, DL.endR_rt, DL.endR_nx, DL.endR_ex, List.map_cons, List.map_nil, List.replicate_succ, List.replicate_zero, List.cons_append, List.nil_append, List.getElem?_cons_zero, List.getElem?_cons_succ, List.set_cons_zero, List.set_cons_succ, Nat.reduceSub, Nat.reduceAdd, List.length_cons, List.length_nil, List.any_cons, List.any_nil, Bool.or_false, Bool.or_true, Bool.not_true, Bool.not_false, Nat.reduceLeDiff, Bool.false_or, Bool.true_or, DL.trim_eq, DL.sFor_k, DL.kFor_0, DL.cSrc_k, DL.kSrc_0, DL.cApp_k, DL.kSrcA_0, DL.srcD_t, DL.srcD_f, DL.eqD_ii, DL.neD_ii, DL.ix_t0, DL.ix_t1, p1018, h, decide_true, ty, ap]), gs ++ [z], zs, st, .d (.int z), rfl, fun y hy => e2 y (by simp [hy]), by simp at e3 ⊢; omega, e4, rfl, rfl⟩
        · have m1 : mulOk st 48271 = true := mulOk_b (m := 32) (n := 17) e4 (by decide) (by decide) (by decide)
          have m2 : mulOk z 69621 = true := mulOk_b (m := 1048577) (n := 17) (bits_lt (hb z hz)) (by decide) (by decide) (by decide)
          have d1 : (0 : Int) < 2147483647 := by decide
          have q0 := Int.emod_nonneg (st * 48271 + z * 69621 + 7) (show (2147483647 : Int) ≠ 0 by decide)
          have q1 := Int.emod_lt_of_pos (st * 48271 + z * 69621 + 7) d1
          refine ⟨_, rfl, _, _, .inl (by simp only [L__law_box_0, DL.kSeq_0, DL.kSeq_1, DL.kSeq_2, DL.kSeq_3, DL.kSeq_4, DL.sSeq_k, DL.sSkip_k, DL.sBreak_k, DL.sCont_k, DL.sRetN_k, DL.kExpr_0, DL.kExpr_1, DL.sExpr_k, DL.kRet_0, DL.kRet_1, DL.sRet_k, DL.kIf_0, DL.kIf_1, DL.kIf_2, DL.sIf_k, DL.kAsg2_0, DL.kAsg_0, DL.kAsg_1, DL.sAsg_k, DL.sSet_k, DL.gN_k, DL.gsN_k, DL.kG_0, DL.gsC_k, DL.gT_k, DL.kPut4_0, DL.kPut3_0, DL.kPut3_1, DL.kPut2_0, DL.kPut2_1, DL.kPut_0, DL.kPut_1, DL.sPut_k, DL.sPar_k, DL.kVar_0, DL.eVar_k, DL.eC_k, DL.kUn_0, DL.kUn_1, DL.eUn_k, DL.eIsi_k, DL.kBin2_0, DL.kBin2_1, DL.kBin_0, DL.kBin_1, DL.eBin_k, DL.aNil_k, DL.kCons2_0, DL.kCons2_1, DL.kCons_0, DL.kCons_1, DL.aCons_k, DL.kApp_0, DL.kApp_1, DL.eApp_k, DL.kMt2_0, DL.kMt2_1, DL.kMt1_0, DL.kMt_0, DL.kMt_1, DL.eMt_k, DL.kTru_0, DL.kTru_1, DL.tTru_k, DL.kAnd_0, DL.kAnd_1, DL.kAnd_2, DL.tAndF_k, DL.kOr_0, DL.kOr_1, DL.kOr_2, DL.tOrF_k, DL.kNot_0, DL.kNot_1, DL.kNot_2, DL.tNotF_k, DL.kEIf_0, DL.kEIf_1, DL.kEIf_2, DL.eIf_k, DL.kEAnd2_0, DL.kEAnd2_1, DL.kEAnd2_2, DL.kEAnd_0, DL.kEAnd_1, DL.eAnd_k, DL.kEOr2_0, DL.kEOr2_1, DL.kEOr2_2, DL.kEOr_0, DL.kEOr_1, DL.eOr_k, DL.kENot2_0, DL.kENot2_1, DL.kENot2_2, DL.kENot_0, DL.kENot_1, DL.eNot_k, DL.kSl3_0, DL.kSl3_1, DL.kSl2_0, DL.kSl2_1, DL.kSl_0, DL.kSl_1, DL.eSl_k, DL.oNone_k, DL.kOS_0, DL.kOS_1, DL.oSome_k, DL.kKw2_0, DL.kKw2_1, DL.kKw_0, DL.kKw_1, DL.eKw_k, DL.truD_bl, DL.blD_bl, DL.addD_i, DL.subD_i, DL.ltI_i, DL.leI_i, DL.gtI_i, DL.geI_i, DL.negD_i, DL.intD_i, DL.intD_b, DL.max2D_i, DL.min2D_i, DL.gcdD_i, DL.lenD_t, DL.lenD_f, DL.isD_nn, DL.isD_in, DL.isD_tn, DL.isD_bn, DL.isD_sn, DL.isD_ib, DL.isD_tb, DL.isD_bb, DL.isD_sb, DL.isD_nb, DL.isnD_bb, DL.isi_i, DL.isi_b, DL.isi_t, DL.isi_s, DL.isi_n, DL.isTy_ii, DL.isTy_bi, DL.isTy_ib, DL.isTy_bb, DL.isTy_tt, DL.isTy_it, DL.isTy_bt, DL.isTy_ti, DL.isTy_is, DL.isTy_bs, DL.isTy_ss, DL.isTy_st, DL.isTy_nt, DL.isTy_ns, DL.isTy_ni, DL.isTy_ts, DL.isTy_si, DL.isTy_tb, DL.mulD_i, DL.modD_i, DL.fdivD_i, DL.powD_i, DL.tupD_k, DL.lstD_k, DL.fnD_k, DL.endR_rt, DL.endR_nx, DL.endR_ex, List.map_cons, List.map_nil, List.replicate_succ, List.replicate_zero, List.cons_append, List.nil_append, List.getElem?_cons_zero, List.getElem?_cons_succ, List.set_cons_zero, List.set_cons_succ, Nat.reduceSub, Nat.reduceAdd, List.length_cons, List.length_nil, List.any_cons, List.any_nil, Bool.or_false, Bool.or_true, Bool.not_true, Bool.not_false, Nat.reduceLeDiff, Bool.false_or, Bool.true_or, DL.trim_eq, DL.sFor_k, DL.kFor_0, DL.cSrc_k, DL.kSrc_0, DL.cApp_k, DL.kSrcA_0, DL.srcD_t, DL.srcD_f, DL.eqD_ii, DL.neD_ii, DL.ix_t0, DL.ix_t1, p1018, h, decide_false, mulD_i _ _ _ m1, mulD_i _ _ _ m2, modD_i _ _ _ d1]), gs, zs, (st * 48271 + z * 69621 + 7) % 2147483647, .d (.int z), rfl, fun y hy => e2 y (by simp [hy]), by simp at e3 ⊢; omega, by omega, rfl, rfl⟩) (ρ := [.d (.fls (ns.map D.int)), .d (.loc 0), .d (.int (101 + ns.length)), .un]) (s := [Cell.lst [], Cell.lst (ns.map D.int), Cell.lst (ns.map D.int)]) ⟨[], ns, _, _, rfl, fun _ h => h, by simpa using hl, by omega, rfl, rfl⟩
  obtain ⟨gs, zs, st, c, e1, e2, e3, e4, e5, e6⟩ := hI
  subst e5 e6
  have sc : srcD (.loc 2) [Cell.lst [], Cell.lst (ns.map D.int), Cell.lst (ns.map D.int)] = .ok (.cell 2 (ns.map D.int)) [Cell.lst [], Cell.lst (ns.map D.int), Cell.lst (ns.map D.int)] := srcD_l rfl
  have ty : tyD "list" (.loc 0) [Cell.lst (gs.map D.int), Cell.lst (ns.map D.int), Cell.lst (ns.map D.int)] = true := by simp [tyD]
  have rv : revD (.loc 0) [] [Cell.lst (gs.map D.int), Cell.lst (ns.map D.int), Cell.lst (ns.map D.int)] = .ok .non [Cell.lst (gs.reverse.map D.int), Cell.lst (ns.map D.int), Cell.lst (ns.map D.int)] := by
    simp [revD]
  refine ⟨[Cell.lst (gs.reverse.map D.int), Cell.lst (ns.map D.int), Cell.lst (ns.map D.int), Cell.lst [.int 0, .loc 0, .int st, .int 0]], ?_, ⟨by decide, ⟨0, st, 0, rfl, e4, by decide, by decide⟩, ⟨gs.reverse, rfl⟩⟩, rfl⟩
  have b2 : B__law_box [.d (.fls (ns.map D.int)), .un, .un, .un] [] = .rt (.loc 3) [Cell.lst (gs.reverse.map D.int), Cell.lst (ns.map D.int), Cell.lst (ns.map D.int), Cell.lst [.int 0, .loc 0, .int st, .int 0]] := by
    unfold B__law_box
    rw [seq_nx (ρ' := [.d (.fls (ns.map D.int)), .d (.loc 0), .un, .un]) (s' := [Cell.lst []]) (by simp only [S__law_box_0, DL.kSeq_0, DL.kSeq_1, DL.kSeq_2, DL.kSeq_3, DL.kSeq_4, DL.sSeq_k, DL.sSkip_k, DL.sBreak_k, DL.sCont_k, DL.sRetN_k, DL.kExpr_0, DL.kExpr_1, DL.sExpr_k, DL.kRet_0, DL.kRet_1, DL.sRet_k, DL.kIf_0, DL.kIf_1, DL.kIf_2, DL.sIf_k, DL.kAsg2_0, DL.kAsg_0, DL.kAsg_1, DL.sAsg_k, DL.sSet_k, DL.gN_k, DL.gsN_k, DL.kG_0, DL.gsC_k, DL.gT_k, DL.kPut4_0, DL.kPut3_0, DL.kPut3_1, DL.kPut2_0, DL.kPut2_1, DL.kPut_0, DL.kPut_1, DL.sPut_k, DL.sPar_k, DL.kVar_0, DL.eVar_k, DL.eC_k, DL.kUn_0, DL.kUn_1, DL.eUn_k, DL.eIsi_k, DL.kBin2_0, DL.kBin2_1, DL.kBin_0, DL.kBin_1, DL.eBin_k, DL.aNil_k, DL.kCons2_0, DL.kCons2_1, DL.kCons_0, DL.kCons_1, DL.aCons_k, DL.kApp_0, DL.kApp_1, DL.eApp_k, DL.kMt2_0, DL.kMt2_1, DL.kMt1_0, DL.kMt_0, DL.kMt_1, DL.eMt_k, DL.kTru_0, DL.kTru_1, DL.tTru_k, DL.kAnd_0, DL.kAnd_1, DL.kAnd_2, DL.tAndF_k, DL.kOr_0, DL.kOr_1, DL.kOr_2, DL.tOrF_k, DL.kNot_0, DL.kNot_1, DL.kNot_2, DL.tNotF_k, DL.kEIf_0, DL.kEIf_1, DL.kEIf_2, DL.eIf_k, DL.kEAnd2_0, DL.kEAnd2_1, DL.kEAnd2_2, DL.kEAnd_0, DL.kEAnd_1, DL.eAnd_k, DL.kEOr2_0, DL.kEOr2_1, DL.kEOr2_2, DL.kEOr_0, DL.kEOr_1, DL.eOr_k, DL.kENot2_0, DL.kENot2_1, DL.kENot2_2, DL.kENot_0, DL.kENot_1, DL.eNot_k, DL.kSl3_0, DL.kSl3_1, DL.kSl2_0, DL.kSl2_1, DL.kSl_0, DL.kSl_1, DL.eSl_k, DL.oNone_k, DL.kOS_0, DL.kOS_1, DL.oSome_k, DL.kKw2_0, DL.kKw2_1, DL.kKw_0, DL.kKw_1, DL.eKw_k, DL.truD_bl, DL.blD_bl, DL.addD_i, DL.subD_i, DL.ltI_i, DL.leI_i, DL.gtI_i, DL.geI_i, DL.negD_i, DL.intD_i, DL.intD_b, DL.max2D_i, DL.min2D_i, DL.gcdD_i, DL.lenD_t, DL.lenD_f, DL.isD_nn, DL.isD_in, DL.isD_tn, DL.isD_bn, DL.isD_sn, DL.isD_ib, DL.isD_tb, DL.isD_bb, DL.isD_sb, DL.isD_nb, DL.isnD_bb, DL.isi_i, DL.isi_b, DL.isi_t, DL.isi_s, DL.isi_n, DL.isTy_ii, DL.isTy_bi, DL.isTy_ib, DL.isTy_bb, DL.isTy_tt, DL.isTy_it, DL.isTy_bt, DL.isTy_ti, DL.isTy_is, DL.isTy_bs, DL.isTy_ss, DL.isTy_st, DL.isTy_nt, DL.isTy_ns, DL.isTy_ni, DL.isTy_ts, DL.isTy_si, DL.isTy_tb, DL.mulD_i, DL.modD_i, DL.fdivD_i, DL.powD_i, DL.tupD_k, DL.lstD_k, DL.fnD_k, DL.endR_rt, DL.endR_nx, DL.endR_ex, List.map_cons, List.map_nil, List.replicate_succ, List.replicate_zero, List.cons_append, List.nil_append, List.getElem?_cons_zero, List.getElem?_cons_succ, List.set_cons_zero, List.set_cons_succ, Nat.reduceSub, Nat.reduceAdd, List.length_cons, List.length_nil, List.any_cons, List.any_nil, Bool.or_false, Bool.or_true, Bool.not_true, Bool.not_false, Nat.reduceLeDiff, Bool.false_or, Bool.true_or, DL.trim_eq, DL.sFor_k, DL.kFor_0, DL.cSrc_k, DL.kSrc_0, DL.cApp_k, DL.kSrcA_0, DL.srcD_t, DL.srcD_f, DL.eqD_ii, DL.neD_ii, DL.ix_t0, DL.ix_t1]),
      seq_nx (ρ' := [.d (.fls (ns.map D.int)), .d (.loc 0), .d (.int (101 + ns.length)), .un]) (s' := [Cell.lst [], Cell.lst (ns.map D.int)]) (by simp only [S__law_box_1, DL.kSeq_0, DL.kSeq_1, DL.kSeq_2, DL.kSeq_3, DL.kSeq_4, DL.sSeq_k, DL.sSkip_k, DL.sBreak_k, DL.sCont_k, DL.sRetN_k, DL.kExpr_0, DL.kExpr_1, DL.sExpr_k, DL.kRet_0, DL.kRet_1, DL.sRet_k, DL.kIf_0, DL.kIf_1, DL.kIf_2, DL.sIf_k, DL.kAsg2_0, DL.kAsg_0, DL.kAsg_1, DL.sAsg_k, DL.sSet_k, DL.gN_k, DL.gsN_k, DL.kG_0, DL.gsC_k, DL.gT_k, DL.kPut4_0, DL.kPut3_0, DL.kPut3_1, DL.kPut2_0, DL.kPut2_1, DL.kPut_0, DL.kPut_1, DL.sPut_k, DL.sPar_k, DL.kVar_0, DL.eVar_k, DL.eC_k, DL.kUn_0, DL.kUn_1, DL.eUn_k, DL.eIsi_k, DL.kBin2_0, DL.kBin2_1, DL.kBin_0, DL.kBin_1, DL.eBin_k, DL.aNil_k, DL.kCons2_0, DL.kCons2_1, DL.kCons_0, DL.kCons_1, DL.aCons_k, DL.kApp_0, DL.kApp_1, DL.eApp_k, DL.kMt2_0, DL.kMt2_1, DL.kMt1_0, DL.kMt_0, DL.kMt_1, DL.eMt_k, DL.kTru_0, DL.kTru_1, DL.tTru_k, DL.kAnd_0, DL.kAnd_1, DL.kAnd_2, DL.tAndF_k, DL.kOr_0, DL.kOr_1, DL.kOr_2, DL.tOrF_k, DL.kNot_0, DL.kNot_1, DL.kNot_2, DL.tNotF_k, DL.kEIf_0, DL.kEIf_1, DL.kEIf_2, DL.eIf_k, DL.kEAnd2_0, DL.kEAnd2_1, DL.kEAnd2_2, DL.kEAnd_0, DL.kEAnd_1, DL.eAnd_k, DL.kEOr2_0, DL.kEOr2_1, DL.kEOr2_2, DL.kEOr_0, DL.kEOr_1, DL.eOr_k, DL.kENot2_0, DL.kENot2_1, DL.kENot2_2, DL.kENot_0, DL.kENot_1, DL.eNot_k, DL.kSl3_0, DL.kSl3_1, DL.kSl2_0, DL.kSl2_1, DL.kSl_0, DL.kSl_1, DL.eSl_k, DL.oNone_k, DL.kOS_0, DL.kOS_1, DL.oSome_k, DL.kKw2_0, DL.kKw2_1, DL.kKw_0, DL.kKw_1, DL.eKw_k, DL.truD_bl, DL.blD_bl, DL.addD_i, DL.subD_i, DL.ltI_i, DL.leI_i, DL.gtI_i, DL.geI_i, DL.negD_i, DL.intD_i, DL.intD_b, DL.max2D_i, DL.min2D_i, DL.gcdD_i, DL.lenD_t, DL.lenD_f, DL.isD_nn, DL.isD_in, DL.isD_tn, DL.isD_bn, DL.isD_sn, DL.isD_ib, DL.isD_tb, DL.isD_bb, DL.isD_sb, DL.isD_nb, DL.isnD_bb, DL.isi_i, DL.isi_b, DL.isi_t, DL.isi_s, DL.isi_n, DL.isTy_ii, DL.isTy_bi, DL.isTy_ib, DL.isTy_bb, DL.isTy_tt, DL.isTy_it, DL.isTy_bt, DL.isTy_ti, DL.isTy_is, DL.isTy_bs, DL.isTy_ss, DL.isTy_st, DL.isTy_nt, DL.isTy_ns, DL.isTy_ni, DL.isTy_ts, DL.isTy_si, DL.isTy_tb, DL.mulD_i, DL.modD_i, DL.fdivD_i, DL.powD_i, DL.tupD_k, DL.lstD_k, DL.fnD_k, DL.endR_rt, DL.endR_nx, DL.endR_ex, List.map_cons, List.map_nil, List.replicate_succ, List.replicate_zero, List.cons_append, List.nil_append, List.getElem?_cons_zero, List.getElem?_cons_succ, List.set_cons_zero, List.set_cons_succ, Nat.reduceSub, Nat.reduceAdd, List.length_cons, List.length_nil, List.any_cons, List.any_nil, Bool.or_false, Bool.or_true, Bool.not_true, Bool.not_false, Nat.reduceLeDiff, Bool.false_or, Bool.true_or, DL.trim_eq, DL.sFor_k, DL.kFor_0, DL.cSrc_k, DL.kSrc_0, DL.cApp_k, DL.kSrcA_0, DL.srcD_t, DL.srcD_f, DL.eqD_ii, DL.neD_ii, DL.ix_t0, DL.ix_t1, sl, ln]),
      seq_nx (ρ' := [.d (.fls (ns.map D.int)), .d (.loc 0), .d (.int st), c]) (s' := [Cell.lst (gs.map D.int), Cell.lst (ns.map D.int), Cell.lst (ns.map D.int)]) (by simp only [S__law_box_2, DL.kSeq_0, DL.kSeq_1, DL.kSeq_2, DL.kSeq_3, DL.kSeq_4, DL.sSeq_k, DL.sSkip_k, DL.sBreak_k, DL.sCont_k, DL.sRetN_k, DL.kExpr_0, DL.kExpr_1, DL.sExpr_k, DL.kRet_0, DL.kRet_1, DL.sRet_k, DL.kIf_0, DL.kIf_1, DL.kIf_2, DL.sIf_k, DL.kAsg2_0, DL.kAsg_0, DL.kAsg_1, DL.sAsg_k, DL.sSet_k, DL.gN_k, DL.gsN_k, DL.kG_0, DL.gsC_k, DL.gT_k, DL.kPut4_0, DL.kPut3_0, DL.kPut3_1, DL.kPut2_0, DL.kPut2_1, DL.kPut_0, DL.kPut_1, DL.sPut_k, DL.sPar_k, DL.kVar_0, DL.eVar_k, DL.eC_k, DL.kUn_0, DL.kUn_1, DL.eUn_k, DL.eIsi_k, DL.kBin2_0, DL.kBin2_1, DL.kBin_0, DL.kBin_1, DL.eBin_k, DL.aNil_k, DL.kCons2_0, DL.kCons2_1, DL.kCons_0, DL.kCons_1, DL.aCons_k, DL.kApp_0, DL.kApp_1, DL.eApp_k, DL.kMt2_0, DL.kMt2_1, DL.kMt1_0, DL.kMt_0, DL.kMt_1, DL.eMt_k, DL.kTru_0, DL.kTru_1, DL.tTru_k, DL.kAnd_0, DL.kAnd_1, DL.kAnd_2, DL.tAndF_k, DL.kOr_0, DL.kOr_1, DL.kOr_2, DL.tOrF_k, DL.kNot_0, DL.kNot_1, DL.kNot_2, DL.tNotF_k, DL.kEIf_0, DL.kEIf_1, DL.kEIf_2, DL.eIf_k, DL.kEAnd2_0, DL.kEAnd2_1, DL.kEAnd2_2, DL.kEAnd_0, DL.kEAnd_1, DL.eAnd_k, DL.kEOr2_0, DL.kEOr2_1, DL.kEOr2_2, DL.kEOr_0, DL.kEOr_1, DL.eOr_k, DL.kENot2_0, DL.kENot2_1, DL.kENot2_2, DL.kENot_0, DL.kENot_1, DL.eNot_k, DL.kSl3_0, DL.kSl3_1, DL.kSl2_0, DL.kSl2_1, DL.kSl_0, DL.kSl_1, DL.eSl_k, DL.oNone_k, DL.kOS_0, DL.kOS_1, DL.oSome_k, DL.kKw2_0, DL.kKw2_1, DL.kKw_0, DL.kKw_1, DL.eKw_k, DL.truD_bl, DL.blD_bl, DL.addD_i, DL.subD_i, DL.ltI_i, DL.leI_i, DL.gtI_i, DL.geI_i, DL.negD_i, DL.intD_i, DL.intD_b, DL.max2D_i, DL.min2D_i, DL.gcdD_i, DL.lenD_t, DL.lenD_f, DL.isD_nn, DL.isD_in, DL.isD_tn, DL.isD_bn, DL.isD_sn, DL.isD_ib, DL.isD_tb, DL.isD_bb, DL.isD_sb, DL.isD_nb, DL.isnD_bb, DL.isi_i, DL.isi_b, DL.isi_t, DL.isi_s, DL.isi_n, DL.isTy_ii, DL.isTy_bi, DL.isTy_ib, DL.isTy_bb, DL.isTy_tt, DL.isTy_it, DL.isTy_bt, DL.isTy_ti, DL.isTy_is, DL.isTy_bs, DL.isTy_ss, DL.isTy_st, DL.isTy_nt, DL.isTy_ns, DL.isTy_ni, DL.isTy_ts, DL.isTy_si, DL.isTy_tb, DL.mulD_i, DL.modD_i, DL.fdivD_i, DL.powD_i, DL.tupD_k, DL.lstD_k, DL.fnD_k, DL.endR_rt, DL.endR_nx, DL.endR_ex, List.map_cons, List.map_nil, List.replicate_succ, List.replicate_zero, List.cons_append, List.nil_append, List.getElem?_cons_zero, List.getElem?_cons_succ, List.set_cons_zero, List.set_cons_succ, Nat.reduceSub, Nat.reduceAdd, List.length_cons, List.length_nil, List.any_cons, List.any_nil, Bool.or_false, Bool.or_true, Bool.not_true, Bool.not_false, Nat.reduceLeDiff, Bool.false_or, Bool.true_or, DL.trim_eq, DL.sFor_k, DL.kFor_0, DL.cSrc_k, DL.kSrc_0, DL.cApp_k, DL.kSrcA_0, DL.srcD_t, DL.srcD_f, DL.eqD_ii, DL.neD_ii, DL.ix_t0, DL.ix_t1, sl, sc]; exact e),
      seq_nx (ρ' := [.d (.fls (ns.map D.int)), .d (.loc 0), .d (.int st), c]) (s' := [Cell.lst (gs.reverse.map D.int), Cell.lst (ns.map D.int), Cell.lst (ns.map D.int)]) (by simp only [S__law_box_3, DL.kSeq_0, DL.kSeq_1, DL.kSeq_2, DL.kSeq_3, DL.kSeq_4, DL.sSeq_k, DL.sSkip_k, DL.sBreak_k, DL.sCont_k, DL.sRetN_k, DL.kExpr_0, DL.kExpr_1, DL.sExpr_k, DL.kRet_0, DL.kRet_1, DL.sRet_k, DL.kIf_0, DL.kIf_1, DL.kIf_2, DL.sIf_k, DL.kAsg2_0, DL.kAsg_0, DL.kAsg_1, DL.sAsg_k, DL.sSet_k, DL.gN_k, DL.gsN_k, DL.kG_0, DL.gsC_k, DL.gT_k, DL.kPut4_0, DL.kPut3_0, DL.kPut3_1, DL.kPut2_0, DL.kPut2_1, DL.kPut_0, DL.kPut_1, DL.sPut_k, DL.sPar_k, DL.kVar_0, DL.eVar_k, DL.eC_k, DL.kUn_0, DL.kUn_1, DL.eUn_k, DL.eIsi_k, DL.kBin2_0, DL.kBin2_1, DL.kBin_0, DL.kBin_1, DL.eBin_k, DL.aNil_k, DL.kCons2_0, DL.kCons2_1, DL.kCons_0, DL.kCons_1, DL.aCons_k, DL.kApp_0, DL.kApp_1, DL.eApp_k, DL.kMt2_0, DL.kMt2_1, DL.kMt1_0, DL.kMt_0, DL.kMt_1, DL.eMt_k, DL.kTru_0, DL.kTru_1, DL.tTru_k, DL.kAnd_0, DL.kAnd_1, DL.kAnd_2, DL.tAndF_k, DL.kOr_0, DL.kOr_1, DL.kOr_2, DL.tOrF_k, DL.kNot_0, DL.kNot_1, DL.kNot_2, DL.tNotF_k, DL.kEIf_0, DL.kEIf_1, DL.kEIf_2, DL.eIf_k, DL.kEAnd2_0, DL.kEAnd2_1, DL.kEAnd2_2, DL.kEAnd_0, DL.kEAnd_1, DL.eAnd_k, DL.kEOr2_0, DL.kEOr2_1, DL.kEOr2_2, DL.kEOr_0, DL.kEOr_1, DL.eOr_k, DL.kENot2_0, DL.kENot2_1, DL.kENot2_2, DL.kENot_0, DL.kENot_1, DL.eNot_k, DL.kSl3_0, DL.kSl3_1, DL.kSl2_0, DL.kSl2_1, DL.kSl_0, DL.kSl_1, DL.eSl_k, DL.oNone_k, DL.kOS_0, DL.kOS_1, DL.oSome_k, DL.kKw2_0, DL.kKw2_1, DL.kKw_0, DL.kKw_1, DL.eKw_k, DL.truD_bl, DL.blD_bl, DL.addD_i, DL.subD_i, DL.ltI_i, DL.leI_i, DL.gtI_i, DL.geI_i, DL.negD_i, DL.intD_i, DL.intD_b, DL.max2D_i, DL.min2D_i, DL.gcdD_i, DL.lenD_t, DL.lenD_f, DL.isD_nn, DL.isD_in, DL.isD_tn, DL.isD_bn, DL.isD_sn, DL.isD_ib, DL.isD_tb, DL.isD_bb, DL.isD_sb, DL.isD_nb, DL.isnD_bb, DL.isi_i, DL.isi_b, DL.isi_t, DL.isi_s, DL.isi_n, DL.isTy_ii, DL.isTy_bi, DL.isTy_ib, DL.isTy_bb, DL.isTy_tt, DL.isTy_it, DL.isTy_bt, DL.isTy_ti, DL.isTy_is, DL.isTy_bs, DL.isTy_ss, DL.isTy_st, DL.isTy_nt, DL.isTy_ns, DL.isTy_ni, DL.isTy_ts, DL.isTy_si, DL.isTy_tb, DL.mulD_i, DL.modD_i, DL.fdivD_i, DL.powD_i, DL.tupD_k, DL.lstD_k, DL.fnD_k, DL.endR_rt, DL.endR_nx, DL.endR_ex, List.map_cons, List.map_nil, List.replicate_succ, List.replicate_zero, List.cons_append, List.nil_append, List.getElem?_cons_zero, List.getElem?_cons_succ, List.set_cons_zero, List.set_cons_succ, Nat.reduceSub, Nat.reduceAdd, List.length_cons, List.length_nil, List.any_cons, List.any_nil, Bool.or_false, Bool.or_true, Bool.not_true, Bool.not_false, Nat.reduceLeDiff, Bool.false_or, Bool.true_or, DL.trim_eq, DL.sFor_k, DL.kFor_0, DL.cSrc_k, DL.kSrc_0, DL.cApp_k, DL.kSrcA_0, DL.srcD_t, DL.srcD_f, DL.eqD_ii, DL.neD_ii, DL.ix_t0, DL.ix_t1, ty, rv])]
    simp only [S__law_box_4, DL.kSeq_0, DL.kSeq_1, DL.kSeq_2, DL.kSeq_3, DL.kSeq_4, DL.sSeq_k, DL.sSkip_k, DL.sBreak_k, DL.sCont_k, DL.sRetN_k, DL.kExpr_0, DL.kExpr_1, DL.sExpr_k, DL.kRet_0, DL.kRet_1, DL.sRet_k, DL.kIf_0, DL.kIf_1, DL.kIf_2, DL.sIf_k, DL.kAsg2_0, DL.kAsg_0, DL.kAsg_1, DL.sAsg_k, DL.sSet_k, DL.gN_k, DL.gsN_k, DL.kG_0, DL.gsC_k, DL.gT_k, DL.kPut4_0, DL.kPut3_0, DL.kPut3_1, DL.kPut2_0, DL.kPut2_1, DL.kPut_0, DL.kPut_1, DL.sPut_k, DL.sPar_k, DL.kVar_0, DL.eVar_k, DL.eC_k, DL.kUn_0, DL.kUn_1, DL.eUn_k, DL.eIsi_k, DL.kBin2_0, DL.kBin2_1, DL.kBin_0, DL.kBin_1, DL.eBin_k, DL.aNil_k, DL.kCons2_0, DL.kCons2_1, DL.kCons_0, DL.kCons_1, DL.aCons_k, DL.kApp_0, DL.kApp_1, DL.eApp_k, DL.kMt2_0, DL.kMt2_1, DL.kMt1_0, DL.kMt_0, DL.kMt_1, DL.eMt_k, DL.kTru_0, DL.kTru_1, DL.tTru_k, DL.kAnd_0, DL.kAnd_1, DL.kAnd_2, DL.tAndF_k, DL.kOr_0, DL.kOr_1, DL.kOr_2, DL.tOrF_k, DL.kNot_0, DL.kNot_1, DL.kNot_2, DL.tNotF_k, DL.kEIf_0, DL.kEIf_1, DL.kEIf_2, DL.eIf_k, DL.kEAnd2_0, DL.kEAnd2_1, DL.kEAnd2_2, DL.kEAnd_0, DL.kEAnd_1, DL.eAnd_k, DL.kEOr2_0, DL.kEOr2_1, DL.kEOr2_2, DL.kEOr_0, DL.kEOr_1, DL.eOr_k, DL.kENot2_0, DL.kENot2_1, DL.kENot2_2, DL.kENot_0, DL.kENot_1, DL.eNot_k, DL.kSl3_0, DL.kSl3_1, DL.kSl2_0, DL.kSl2_1, DL.kSl_0, DL.kSl_1, DL.eSl_k, DL.oNone_k, DL.kOS_0, DL.kOS_1, DL.oSome_k, DL.kKw2_0, DL.kKw2_1, DL.kKw_0, DL.kKw_1, DL.eKw_k, DL.truD_bl, DL.blD_bl, DL.addD_i, DL.subD_i, DL.ltI_i, DL.leI_i, DL.gtI_i, DL.geI_i, DL.negD_i, DL.intD_i, DL.intD_b, DL.max2D_i, DL.min2D_i, DL.gcdD_i, DL.lenD_t, DL.lenD_f, DL.isD_nn, DL.isD_in, DL.isD_tn, DL.isD_bn, DL.isD_sn, DL.isD_ib, DL.isD_tb, DL.isD_bb, DL.isD_sb, DL.isD_nb, DL.isnD_bb, DL.isi_i, DL.isi_b, DL.isi_t, DL.isi_s, DL.isi_n, DL.isTy_ii, DL.isTy_bi, DL.isTy_ib, DL.isTy_bb, DL.isTy_tt, DL.isTy_it, DL.isTy_bt, DL.isTy_ti, DL.isTy_is, DL.isTy_bs, DL.isTy_ss, DL.isTy_st, DL.isTy_nt, DL.isTy_ns, DL.isTy_ni, DL.isTy_ts, DL.isTy_si, DL.isTy_tb, DL.mulD_i, DL.modD_i, DL.fdivD_i, DL.powD_i, DL.tupD_k, DL.lstD_k, DL.fnD_k, DL.endR_rt, DL.endR_nx, DL.endR_ex, List.map_cons, List.map_nil, List.replicate_succ, List.replicate_zero, List.cons_append, List.nil_append, List.getElem?_cons_zero, List.getElem?_cons_succ, List.set_cons_zero, List.set_cons_succ, Nat.reduceSub, Nat.reduceAdd, List.length_cons, List.length_nil, List.any_cons, List.any_nil, Bool.or_false, Bool.or_true, Bool.not_true, Bool.not_false, Nat.reduceLeDiff, Bool.false_or, Bool.true_or, DL.trim_eq, DL.sFor_k, DL.kFor_0, DL.cSrc_k, DL.kSrc_0, DL.cApp_k, DL.kSrcA_0, DL.srcD_t, DL.srcD_f, DL.eqD_ii, DL.neD_ii, DL.ix_t0, DL.ix_t1]
  simp only [F__law_box, DL.kSeq_0, DL.kSeq_1, DL.kSeq_2, DL.kSeq_3, DL.kSeq_4, DL.sSeq_k, DL.sSkip_k, DL.sBreak_k, DL.sCont_k, DL.sRetN_k, DL.kExpr_0, DL.kExpr_1, DL.sExpr_k, DL.kRet_0, DL.kRet_1, DL.sRet_k, DL.kIf_0, DL.kIf_1, DL.kIf_2, DL.sIf_k, DL.kAsg2_0, DL.kAsg_0, DL.kAsg_1, DL.sAsg_k, DL.sSet_k, DL.gN_k, DL.gsN_k, DL.kG_0, DL.gsC_k, DL.gT_k, DL.kPut4_0, DL.kPut3_0, DL.kPut3_1, DL.kPut2_0, DL.kPut2_1, DL.kPut_0, DL.kPut_1, DL.sPut_k, DL.sPar_k, DL.kVar_0, DL.eVar_k, DL.eC_k, DL.kUn_0, DL.kUn_1, DL.eUn_k, DL.eIsi_k, DL.kBin2_0, DL.kBin2_1, DL.kBin_0, DL.kBin_1, DL.eBin_k, DL.aNil_k, DL.kCons2_0, DL.kCons2_1, DL.kCons_0, DL.kCons_1, DL.aCons_k, DL.kApp_0, DL.kApp_1, DL.eApp_k, DL.kMt2_0, DL.kMt2_1, DL.kMt1_0, DL.kMt_0, DL.kMt_1, DL.eMt_k, DL.kTru_0, DL.kTru_1, DL.tTru_k, DL.kAnd_0, DL.kAnd_1, DL.kAnd_2, DL.tAndF_k, DL.kOr_0, DL.kOr_1, DL.kOr_2, DL.tOrF_k, DL.kNot_0, DL.kNot_1, DL.kNot_2, DL.tNotF_k, DL.kEIf_0, DL.kEIf_1, DL.kEIf_2, DL.eIf_k, DL.kEAnd2_0, DL.kEAnd2_1, DL.kEAnd2_2, DL.kEAnd_0, DL.kEAnd_1, DL.eAnd_k, DL.kEOr2_0, DL.kEOr2_1, DL.kEOr2_2, DL.kEOr_0, DL.kEOr_1, DL.eOr_k, DL.kENot2_0, DL.kENot2_1, DL.kENot2_2, DL.kENot_0, DL.kENot_1, DL.eNot_k, DL.kSl3_0, DL.kSl3_1, DL.kSl2_0, DL.kSl2_1, DL.kSl_0, DL.kSl_1, DL.eSl_k, DL.oNone_k, DL.kOS_0, DL.kOS_1, DL.oSome_k, DL.kKw2_0, DL.kKw2_1, DL.kKw_0, DL.kKw_1, DL.eKw_k, DL.truD_bl, DL.blD_bl, DL.addD_i, DL.subD_i, DL.ltI_i, DL.leI_i, DL.gtI_i, DL.geI_i, DL.negD_i, DL.intD_i, DL.intD_b, DL.max2D_i, DL.min2D_i, DL.gcdD_i, DL.lenD_t, DL.lenD_f, DL.isD_nn, DL.isD_in, DL.isD_tn, DL.isD_bn, DL.isD_sn, DL.isD_ib, DL.isD_tb, DL.isD_bb, DL.isD_sb, DL.isD_nb, DL.isnD_bb, DL.isi_i, DL.isi_b, DL.isi_t, DL.isi_s, DL.isi_n, DL.isTy_ii, DL.isTy_bi, DL.isTy_ib, DL.isTy_bb, DL.isTy_tt, DL.isTy_it, DL.isTy_bt, DL.isTy_ti, DL.isTy_is, DL.isTy_bs, DL.isTy_ss, DL.isTy_st, DL.isTy_nt, DL.isTy_ns, DL.isTy_ni, DL.isTy_ts, DL.isTy_si, DL.isTy_tb, DL.mulD_i, DL.modD_i, DL.fdivD_i, DL.powD_i, DL.tupD_k, DL.lstD_k, DL.fnD_k, DL.endR_rt, DL.endR_nx, DL.endR_ex, List.map_cons, List.map_nil, List.replicate_succ, List.replicate_zero, List.cons_append, List.nil_append, List.getElem?_cons_zero, List.getElem?_cons_succ, List.set_cons_zero, List.set_cons_succ, Nat.reduceSub, Nat.reduceAdd, List.length_cons, List.length_nil, List.any_cons, List.any_nil, Bool.or_false, Bool.or_true, Bool.not_true, Bool.not_false, Nat.reduceLeDiff, Bool.false_or, Bool.true_or, DL.trim_eq, DL.sFor_k, DL.kFor_0, DL.cSrc_k, DL.kSrc_0, DL.cApp_k, DL.kSrcA_0, DL.srcD_t, DL.srcD_f, DL.eqD_ii, DL.neD_ii, DL.ix_t0, DL.ix_t1]
  rw [b2]
  exact trim_loc _ _ _

/-! ### moments -/
abbrev mo (x : Int × Int) : D := .tup [.int x.1, .int x.2]
def low2 (a b : Int) : Int × Int := (a / gI a b, b / gI a b)
theorem loD_mo (a b : Int) : loD a b = mo (low2 a b) := rfl
theorem low2_ok {a b : Int} (ha : 0 ≤ a) (hb : 1 ≤ b) : 0 ≤ (low2 a b).1 ∧ 1 ≤ (low2 a b).2 ∧ gI (low2 a b).1 (low2 a b).2 = 1 ∧ (low2 a b).1 ≤ a ∧ (low2 a b).2 ≤ b := by
  obtain ⟨m, rfl⟩ := Int.eq_ofNat_of_zero_le ha
  obtain ⟨n, rfl⟩ := Int.eq_ofNat_of_zero_le (show 0 ≤ b by omega)
  have hn : 0 < n := by omega
  have g : gI (m : Int) (n : Int) = ((Nat.gcd m n : Nat) : Int) := rfl
  have g0 : 0 < Nat.gcd m n := Nat.gcd_pos_of_pos_right _ hn
  unfold low2
  have e3 : ∀ x y : Nat, (x : Int) / (y : Int) = ((x / y : Nat) : Int) := fun _ _ => rfl
  rw [g, e3, e3]
  have c : Nat.gcd (m / Nat.gcd m n) (n / Nat.gcd m n) = 1 := by rw [Nat.gcd_div (Nat.gcd_dvd_left m n) (Nat.gcd_dvd_right m n), Nat.div_self g0]
  have d : 1 ≤ n / Nat.gcd m n := Nat.div_pos (Nat.le_of_dvd hn (Nat.gcd_dvd_right m n)) g0
  have e1 := Nat.div_le_self m (Nat.gcd m n)
  have e2 := Nat.div_le_self n (Nat.gcd m n)
  refine ⟨Int.natCast_nonneg _, Int.ofNat_le.mpr d, ?_, Int.ofNat_le.mpr e1, Int.ofNat_le.mpr e2⟩
  show ((Nat.gcd (m / Nat.gcd m n) (n / Nat.gcd m n) : Nat) : Int) = 1
  rw [c]; rfl
theorem gI_mul {a b k : Int} (ha : 0 ≤ a) (hb : 0 ≤ b) (hk : 0 ≤ k) : gI (a * k) (b * k) = gI a b * k := by
  obtain ⟨m, rfl⟩ := Int.eq_ofNat_of_zero_le ha
  obtain ⟨n, rfl⟩ := Int.eq_ofNat_of_zero_le hb
  obtain ⟨j, rfl⟩ := Int.eq_ofNat_of_zero_le hk
  unfold gI
  rw [← Int.natCast_mul, ← Int.natCast_mul, Int.natAbs_natCast, Int.natAbs_natCast, Int.natAbs_natCast, Int.natAbs_natCast, Nat.gcd_mul_right, Int.natCast_mul]
theorem gI_one (a : Int) : gI a 1 = 1 := by simp [gI]
theorem gI_mod {a b : Int} (ha : 0 ≤ a) (hb : 0 < b) : gI (a % b) b = gI a b := by
  rw [← gcd_step ha hb]
  unfold gI
  rw [Nat.gcd_comm]
theorem two64 : (2 : Nat) ^ 64 = 18446744073709551616 := by decide
theorem lt9000 {n m : Nat} (h : n < 2 ^ m) (hm : m ≤ 9000) : n < 2 ^ 9000 := Nat.lt_of_lt_of_le h (Nat.pow_le_pow_right (by decide) hm)
/-- a moment of the law -/
structure Mo (x : Int × Int) : Prop where
  t : 0 ≤ x.1
  b : 1 ≤ x.2
  g : gI x.1 x.2 = 1
  t6 : x.1.natAbs < 2 ^ 64
  b6 : x.2.natAbs < 2 ^ 64
theorem Mo.low {a b : Int} (ha : 0 ≤ a) (hb : 1 ≤ b) (h1 : a.natAbs < 2 ^ 64) (h2 : b.natAbs < 2 ^ 64) : Mo (low2 a b) := by
  obtain ⟨q1, q2, q3, q4, q5⟩ := low2_ok ha hb
  exact ⟨q1, q2, q3, by omega, by omega⟩
theorem moment_ok {a b : Int} (s : Sto) (ha : 0 ≤ a) (hb : 1 ≤ b) (hz : b.natAbs < 2 ^ 9000) : F_moment [.int a, .int b] s = .ok (loD a b) s := by
  have g0 := gI_pos (a := a) hb
  have g1 : (gI a b).natAbs < 2 ^ 9000 := Nat.lt_of_le_of_lt (gI_le hb) hz
  have n1 : ¬ a < 0 := by omega
  have n2 : ¬ b < 1 := by omega
  simp only [F_moment, B_moment, DL.kSeq_0, DL.kSeq_1, DL.kSeq_2, DL.kSeq_3, DL.kSeq_4, DL.sSeq_k, DL.sSkip_k, DL.sBreak_k, DL.sCont_k, DL.sRetN_k, DL.kExpr_0, DL.kExpr_1, DL.sExpr_k, DL.kRet_0, DL.kRet_1, DL.sRet_k, DL.kIf_0, DL.kIf_1, DL.kIf_2, DL.sIf_k, DL.kAsg2_0, DL.kAsg_0, DL.kAsg_1, DL.sAsg_k, DL.sSet_k, DL.gN_k, DL.gsN_k, DL.kG_0, DL.gsC_k, DL.gT_k, DL.kPut4_0, DL.kPut3_0, DL.kPut3_1, DL.kPut2_0, DL.kPut2_1, DL.kPut_0, DL.kPut_1, DL.sPut_k, DL.sPar_k, DL.kVar_0, DL.eVar_k, DL.eC_k, DL.kUn_0, DL.kUn_1, DL.eUn_k, DL.eIsi_k, DL.kBin2_0, DL.kBin2_1, DL.kBin_0, DL.kBin_1, DL.eBin_k, DL.aNil_k, DL.kCons2_0, DL.kCons2_1, DL.kCons_0, DL.kCons_1, DL.aCons_k, DL.kApp_0, DL.kApp_1, DL.eApp_k, DL.kMt2_0, DL.kMt2_1, DL.kMt1_0, DL.kMt_0, DL.kMt_1, DL.eMt_k, DL.kTru_0, DL.kTru_1, DL.tTru_k, DL.kAnd_0, DL.kAnd_1, DL.kAnd_2, DL.tAndF_k, DL.kOr_0, DL.kOr_1, DL.kOr_2, DL.tOrF_k, DL.kNot_0, DL.kNot_1, DL.kNot_2, DL.tNotF_k, DL.kEIf_0, DL.kEIf_1, DL.kEIf_2, DL.eIf_k, DL.kEAnd2_0, DL.kEAnd2_1, DL.kEAnd2_2, DL.kEAnd_0, DL.kEAnd_1, DL.eAnd_k, DL.kEOr2_0, DL.kEOr2_1, DL.kEOr2_2, DL.kEOr_0, DL.kEOr_1, DL.eOr_k, DL.kENot2_0, DL.kENot2_1, DL.kENot2_2, DL.kENot_0, DL.kENot_1, DL.eNot_k, DL.kSl3_0, DL.kSl3_1, DL.kSl2_0, DL.kSl2_1, DL.kSl_0, DL.kSl_1, DL.eSl_k, DL.oNone_k, DL.kOS_0, DL.kOS_1, DL.oSome_k, DL.kKw2_0, DL.kKw2_1, DL.kKw_0, DL.kKw_1, DL.eKw_k, DL.truD_bl, DL.blD_bl, DL.addD_i, DL.subD_i, DL.ltI_i, DL.leI_i, DL.gtI_i, DL.geI_i, DL.negD_i, DL.intD_i, DL.intD_b, DL.max2D_i, DL.min2D_i, DL.gcdD_i, DL.lenD_t, DL.lenD_f, DL.isD_nn, DL.isD_in, DL.isD_tn, DL.isD_bn, DL.isD_sn, DL.isD_ib, DL.isD_tb, DL.isD_bb, DL.isD_sb, DL.isD_nb, DL.isnD_bb, DL.isi_i, DL.isi_b, DL.isi_t, DL.isi_s, DL.isi_n, DL.isTy_ii, DL.isTy_bi, DL.isTy_ib, DL.isTy_bb, DL.isTy_tt, DL.isTy_it, DL.isTy_bt, DL.isTy_ti, DL.isTy_is, DL.isTy_bs, DL.isTy_ss, DL.isTy_st, DL.isTy_nt, DL.isTy_ns, DL.isTy_ni, DL.isTy_ts, DL.isTy_si, DL.isTy_tb, DL.mulD_i, DL.modD_i, DL.fdivD_i, DL.powD_i, DL.tupD_k, DL.lstD_k, DL.fnD_k, DL.endR_rt, DL.endR_nx, DL.endR_ex, List.map_cons, List.map_nil, List.replicate_succ, List.replicate_zero, List.cons_append, List.nil_append, List.getElem?_cons_zero, List.getElem?_cons_succ, List.set_cons_zero, List.set_cons_succ, Nat.reduceSub, Nat.reduceAdd, List.length_cons, List.length_nil, List.any_cons, List.any_nil, Bool.or_false, Bool.or_true, Bool.not_true, Bool.not_false, Nat.reduceLeDiff, Bool.false_or, Bool.true_or, DL.trim_eq, DL.sFor_k, DL.kFor_0, DL.cSrc_k, DL.kSrc_0, DL.cApp_k, DL.kSrcA_0, DL.srcD_t, DL.srcD_f, DL.eqD_ii, DL.neD_ii, DL.ix_t0, DL.ix_t1]
  simp only [S_moment_0, S_moment_1, S_moment_2, DL.kSeq_0, DL.kSeq_1, DL.kSeq_2, DL.kSeq_3, DL.kSeq_4, DL.sSeq_k, DL.sSkip_k, DL.sBreak_k, DL.sCont_k, DL.sRetN_k, DL.kExpr_0, DL.kExpr_1, DL.sExpr_k, DL.kRet_0, DL.kRet_1, DL.sRet_k, DL.kIf_0, DL.kIf_1, DL.kIf_2, DL.sIf_k, DL.kAsg2_0, DL.kAsg_0, DL.kAsg_1, DL.sAsg_k, DL.sSet_k, DL.gN_k, DL.gsN_k, DL.kG_0, DL.gsC_k, DL.gT_k, DL.kPut4_0, DL.kPut3_0, DL.kPut3_1, DL.kPut2_0, DL.kPut2_1, DL.kPut_0, DL.kPut_1, DL.sPut_k, DL.sPar_k, DL.kVar_0, DL.eVar_k, DL.eC_k, DL.kUn_0, DL.kUn_1, DL.eUn_k, DL.eIsi_k, DL.kBin2_0, DL.kBin2_1, DL.kBin_0, DL.kBin_1, DL.eBin_k, DL.aNil_k, DL.kCons2_0, DL.kCons2_1, DL.kCons_0, DL.kCons_1, DL.aCons_k, DL.kApp_0, DL.kApp_1, DL.eApp_k, DL.kMt2_0, DL.kMt2_1, DL.kMt1_0, DL.kMt_0, DL.kMt_1, DL.eMt_k, DL.kTru_0, DL.kTru_1, DL.tTru_k, DL.kAnd_0, DL.kAnd_1, DL.kAnd_2, DL.tAndF_k, DL.kOr_0, DL.kOr_1, DL.kOr_2, DL.tOrF_k, DL.kNot_0, DL.kNot_1, DL.kNot_2, DL.tNotF_k, DL.kEIf_0, DL.kEIf_1, DL.kEIf_2, DL.eIf_k, DL.kEAnd2_0, DL.kEAnd2_1, DL.kEAnd2_2, DL.kEAnd_0, DL.kEAnd_1, DL.eAnd_k, DL.kEOr2_0, DL.kEOr2_1, DL.kEOr2_2, DL.kEOr_0, DL.kEOr_1, DL.eOr_k, DL.kENot2_0, DL.kENot2_1, DL.kENot2_2, DL.kENot_0, DL.kENot_1, DL.eNot_k, DL.kSl3_0, DL.kSl3_1, DL.kSl2_0, DL.kSl2_1, DL.kSl_0, DL.kSl_1, DL.eSl_k, DL.oNone_k, DL.kOS_0, DL.kOS_1, DL.oSome_k, DL.kKw2_0, DL.kKw2_1, DL.kKw_0, DL.kKw_1, DL.eKw_k, DL.truD_bl, DL.blD_bl, DL.addD_i, DL.subD_i, DL.ltI_i, DL.leI_i, DL.gtI_i, DL.geI_i, DL.negD_i, DL.intD_i, DL.intD_b, DL.max2D_i, DL.min2D_i, DL.gcdD_i, DL.lenD_t, DL.lenD_f, DL.isD_nn, DL.isD_in, DL.isD_tn, DL.isD_bn, DL.isD_sn, DL.isD_ib, DL.isD_tb, DL.isD_bb, DL.isD_sb, DL.isD_nb, DL.isnD_bb, DL.isi_i, DL.isi_b, DL.isi_t, DL.isi_s, DL.isi_n, DL.isTy_ii, DL.isTy_bi, DL.isTy_ib, DL.isTy_bb, DL.isTy_tt, DL.isTy_it, DL.isTy_bt, DL.isTy_ti, DL.isTy_is, DL.isTy_bs, DL.isTy_ss, DL.isTy_st, DL.isTy_nt, DL.isTy_ns, DL.isTy_ni, DL.isTy_ts, DL.isTy_si, DL.isTy_tb, DL.mulD_i, DL.modD_i, DL.fdivD_i, DL.powD_i, DL.tupD_k, DL.lstD_k, DL.fnD_k, DL.endR_rt, DL.endR_nx, DL.endR_ex, List.map_cons, List.map_nil, List.replicate_succ, List.replicate_zero, List.cons_append, List.nil_append, List.getElem?_cons_zero, List.getElem?_cons_succ, List.set_cons_zero, List.set_cons_succ, Nat.reduceSub, Nat.reduceAdd, List.length_cons, List.length_nil, List.any_cons, List.any_nil, Bool.or_false, Bool.or_true, Bool.not_true, Bool.not_false, Nat.reduceLeDiff, Bool.false_or, Bool.true_or, DL.trim_eq, DL.sFor_k, DL.kFor_0, DL.cSrc_k, DL.kSrc_0, DL.cApp_k, DL.kSrcA_0, DL.srcD_t, DL.srcD_f, DL.eqD_ii, DL.neD_ii, DL.ix_t0, DL.ix_t1, n1, n2, decide_false, fdivD_i _ _ _ g0 g1]
  rfl
theorem moment_bad {a b : Int} (s : Sto) (h : a < 0 ∨ b < 1) : F_moment [.int a, .int b] s = .ex ⟨"InvalidMoment", [("value", .tup [.int a, .int b])]⟩ s := by
  have e : S_moment_0 [.d (.int a), .d (.int b), .un] s = .ex ⟨"InvalidMoment", [("value", .tup [.int a, .int b])]⟩ [.d (.int a), .d (.int b), .un] s := by
    have r : sRaise "InvalidMoment" ["value"] (aCons (eApp tupD (aCons (eVar 0) (aCons (eVar 1) aNil))) aNil) [.d (.int a), .d (.int b), .un] s = .ex ⟨"InvalidMoment", [("value", .tup [.int a, .int b])]⟩ [.d (.int a), .d (.int b), .un] s := by
      unfold sRaise
      simp only [DL.kSeq_0, DL.kSeq_1, DL.kSeq_2, DL.kSeq_3, DL.kSeq_4, DL.sSeq_k, DL.sSkip_k, DL.sBreak_k, DL.sCont_k, DL.sRetN_k, DL.kExpr_0, DL.kExpr_1, DL.sExpr_k, DL.kRet_0, DL.kRet_1, DL.sRet_k, DL.kIf_0, DL.kIf_1, DL.kIf_2, DL.sIf_k, DL.kAsg2_0, DL.kAsg_0, DL.kAsg_1, DL.sAsg_k, DL.sSet_k, DL.gN_k, DL.gsN_k, DL.kG_0, DL.gsC_k, DL.gT_k, DL.kPut4_0, DL.kPut3_0, DL.kPut3_1, DL.kPut2_0, DL.kPut2_1, DL.kPut_0, DL.kPut_1, DL.sPut_k, DL.sPar_k, DL.kVar_0, DL.eVar_k, DL.eC_k, DL.kUn_0, DL.kUn_1, DL.eUn_k, DL.eIsi_k, DL.kBin2_0, DL.kBin2_1, DL.kBin_0, DL.kBin_1, DL.eBin_k, DL.aNil_k, DL.kCons2_0, DL.kCons2_1, DL.kCons_0, DL.kCons_1, DL.aCons_k, DL.kApp_0, DL.kApp_1, DL.eApp_k, DL.kMt2_0, DL.kMt2_1, DL.kMt1_0, DL.kMt_0, DL.kMt_1, DL.eMt_k, DL.kTru_0, DL.kTru_1, DL.tTru_k, DL.kAnd_0, DL.kAnd_1, DL.kAnd_2, DL.tAndF_k, DL.kOr_0, DL.kOr_1, DL.kOr_2, DL.tOrF_k, DL.kNot_0, DL.kNot_1, DL.kNot_2, DL.tNotF_k, DL.kEIf_0, DL.kEIf_1, DL.kEIf_2, DL.eIf_k, DL.kEAnd2_0, DL.kEAnd2_1, DL.kEAnd2_2, DL.kEAnd_0, DL.kEAnd_1, DL.eAnd_k, DL.kEOr2_0, DL.kEOr2_1, DL.kEOr2_2, DL.kEOr_0, DL.kEOr_1, DL.eOr_k, DL.kENot2_0, DL.kENot2_1, DL.kENot2_2, DL.kENot_0, DL.kENot_1, DL.eNot_k, DL.kSl3_0, DL.kSl3_1, DL.kSl2_0, DL.kSl2_1, DL.kSl_0, DL.kSl_1, DL.eSl_k, DL.oNone_k, DL.kOS_0, DL.kOS_1, DL.oSome_k, DL.kKw2_0, DL.kKw2_1, DL.kKw_0, DL.kKw_1, DL.eKw_k, DL.truD_bl, DL.blD_bl, DL.addD_i, DL.subD_i, DL.ltI_i, DL.leI_i, DL.gtI_i, DL.geI_i, DL.negD_i, DL.intD_i, DL.intD_b, DL.max2D_i, DL.min2D_i, DL.gcdD_i, DL.lenD_t, DL.lenD_f, DL.isD_nn, DL.isD_in, DL.isD_tn, DL.isD_bn, DL.isD_sn, DL.isD_ib, DL.isD_tb, DL.isD_bb, DL.isD_sb, DL.isD_nb, DL.isnD_bb, DL.isi_i, DL.isi_b, DL.isi_t, DL.isi_s, DL.isi_n, DL.isTy_ii, DL.isTy_bi, DL.isTy_ib, DL.isTy_bb, DL.isTy_tt, DL.isTy_it, DL.isTy_bt, DL.isTy_ti, DL.isTy_is, DL.isTy_bs, DL.isTy_ss, DL.isTy_st, DL.isTy_nt, DL.isTy_ns, DL.isTy_ni, DL.isTy_ts, DL.isTy_si, DL.isTy_tb, DL.mulD_i, DL.modD_i, DL.fdivD_i, DL.powD_i, DL.tupD_k, DL.lstD_k, DL.fnD_k, DL.endR_rt, DL.endR_nx, DL.endR_ex, List.map_cons, List.map_nil, List.replicate_succ, List.replicate_zero, List.cons_append, List.nil_append, List.getElem?_cons_zero, List.getElem?_cons_succ, List.set_cons_zero, List.set_cons_succ, Nat.reduceSub, Nat.reduceAdd, List.length_cons, List.length_nil, List.any_cons, List.any_nil, Bool.or_false, Bool.or_true, Bool.not_true, Bool.not_false, Nat.reduceLeDiff, Bool.false_or, Bool.true_or, DL.trim_eq, DL.sFor_k, DL.kFor_0, DL.cSrc_k, DL.kSrc_0, DL.cApp_k, DL.kSrcA_0, DL.srcD_t, DL.srcD_f, DL.eqD_ii, DL.neD_ii, DL.ix_t0, DL.ix_t1]
      rfl
    by_cases h1 : a < 0
    · simp only [S_moment_0, DL.kSeq_0, DL.kSeq_1, DL.kSeq_2, DL.kSeq_3, DL.kSeq_4, DL.sSeq_k, DL.sSkip_k, DL.sBreak_k, DL.sCont_k, DL.sRetN_k, DL.kExpr_0, DL.kExpr_1, DL.sExpr_k, DL.kRet_0, DL.kRet_1, DL.sRet_k, DL.kIf_0, DL.kIf_1, DL.kIf_2, DL.sIf_k, DL.kAsg2_0, DL.kAsg_0, DL.kAsg_1, DL.sAsg_k, DL.sSet_k, DL.gN_k, DL.gsN_k, DL.kG_0, DL.gsC_k, DL.gT_k, DL.kPut4_0, DL.kPut3_0, DL.kPut3_1, DL.kPut2_0, DL.kPut2_1, DL.kPut_0, DL.kPut_1, DL.sPut_k, DL.sPar_k, DL.kVar_0, DL.eVar_k, DL.eC_k, DL.kUn_0, DL.kUn_1, DL.eUn_k, DL.eIsi_k, DL.kBin2_0, DL.kBin2_1, DL.kBin_0, DL.kBin_1, DL.eBin_k, DL.aNil_k, DL.kCons2_0, DL.kCons2_1, DL.kCons_0, DL.kCons_1, DL.aCons_k, DL.kApp_0, DL.kApp_1, DL.eApp_k, DL.kMt2_0, DL.kMt2_1, DL.kMt1_0, DL.kMt_0, DL.kMt_1, DL.eMt_k, DL.kTru_0, DL.kTru_1, DL.tTru_k, DL.kAnd_0, DL.kAnd_1, DL.kAnd_2, DL.tAndF_k, DL.kOr_0, DL.kOr_1, DL.kOr_2, DL.tOrF_k, DL.kNot_0, DL.kNot_1, DL.kNot_2, DL.tNotF_k, DL.kEIf_0, DL.kEIf_1, DL.kEIf_2, DL.eIf_k, DL.kEAnd2_0, DL.kEAnd2_1, DL.kEAnd2_2, DL.kEAnd_0, DL.kEAnd_1, DL.eAnd_k, DL.kEOr2_0, DL.kEOr2_1, DL.kEOr2_2, DL.kEOr_0, DL.kEOr_1, DL.eOr_k, DL.kENot2_0, DL.kENot2_1, DL.kENot2_2, DL.kENot_0, DL.kENot_1, DL.eNot_k, DL.kSl3_0, DL.kSl3_1, DL.kSl2_0, DL.kSl2_1, DL.kSl_0, DL.kSl_1, DL.eSl_k, DL.oNone_k, DL.kOS_0, DL.kOS_1, DL.oSome_k, DL.kKw2_0, DL.kKw2_1, DL.kKw_0, DL.kKw_1, DL.eKw_k, DL.truD_bl, DL.blD_bl, DL.addD_i, DL.subD_i, DL.ltI_i, DL.leI_i, DL.gtI_i, DL.geI_i, DL.negD_i, DL.intD_i, DL.intD_b, DL.max2D_i, DL.min2D_i, DL.gcdD_i, DL.lenD_t, DL.lenD_f, DL.isD_nn, DL.isD_in, DL.isD_tn, DL.isD_bn, DL.isD_sn, DL.isD_ib, DL.isD_tb, DL.isD_bb, DL.isD_sb, DL.isD_nb, DL.isnD_bb, DL.isi_i, DL.isi_b, DL.isi_t, DL.isi_s, DL.isi_n, DL.isTy_ii, DL.isTy_bi, DL.isTy_ib, DL.isTy_bb, DL.isTy_tt, DL.isTy_it, DL.isTy_bt, DL.isTy_ti, DL.isTy_is, DL.isTy_bs, DL.isTy_ss, DL.isTy_st, DL.isTy_nt, DL.isTy_ns, DL.isTy_ni, DL.isTy_ts, DL.isTy_si, DL.isTy_tb, DL.mulD_i, DL.modD_i, DL.fdivD_i, DL.powD_i, DL.tupD_k, DL.lstD_k, DL.fnD_k, DL.endR_rt, DL.endR_nx, DL.endR_ex, List.map_cons, List.map_nil, List.replicate_succ, List.replicate_zero, List.cons_append, List.nil_append, List.getElem?_cons_zero, List.getElem?_cons_succ, List.set_cons_zero, List.set_cons_succ, Nat.reduceSub, Nat.reduceAdd, List.length_cons, List.length_nil, List.any_cons, List.any_nil, Bool.or_false, Bool.or_true, Bool.not_true, Bool.not_false, Nat.reduceLeDiff, Bool.false_or, Bool.true_or, DL.trim_eq, DL.sFor_k, DL.kFor_0, DL.cSrc_k, DL.kSrc_0, DL.cApp_k, DL.kSrcA_0, DL.srcD_t, DL.srcD_f, DL.eqD_ii, DL.neD_ii, DL.ix_t0, DL.ix_t1, h1, decide_true, r]
    · have h2 : b < 1 := by omega
      simp only [S_moment_0, DL.kSeq_0, DL.kSeq_1, DL.kSeq_2, DL.kSeq_3, DL.kSeq_4, DL.sSeq_k, DL.sSkip_k, DL.sBreak_k, DL.sCont_k, DL.sRetN_k, DL.kExpr_0, DL.kExpr_1, DL.sExpr_k, DL.kRet_0, DL.kRet_1, DL.sRet_k, DL.kIf_0, DL.kIf_1, DL.kIf_2, DL.sIf_k, DL.kAsg2_0, DL.kAsg_0, DL.kAsg_1, DL.sAsg_k, DL.sSet_k, DL.gN_k, DL.gsN_k, DL.kG_0, DL.gsC_k, DL.gT_k, DL.kPut4_0, DL.kPut3_0, DL.kPut3_1, DL.kPut2_0, DL.kPut2_1, DL.kPut_0, DL.kPut_1, DL.sPut_k, DL.sPar_k, DL.kVar_0, DL.eVar_k, DL.eC_k, DL.kUn_0, DL.kUn_1, DL.eUn_k, DL.eIsi_k, DL.kBin2_0, DL.kBin2_1, DL.kBin_0, DL.kBin_1, DL.eBin_k, DL.aNil_k, DL.kCons2_0, DL.kCons2_1, DL.kCons_0, DL.kCons_1, DL.aCons_k, DL.kApp_0, DL.kApp_1, DL.eApp_k, DL.kMt2_0, DL.kMt2_1, DL.kMt1_0, DL.kMt_0, DL.kMt_1, DL.eMt_k, DL.kTru_0, DL.kTru_1, DL.tTru_k, DL.kAnd_0, DL.kAnd_1, DL.kAnd_2, DL.tAndF_k, DL.kOr_0, DL.kOr_1, DL.kOr_2, DL.tOrF_k, DL.kNot_0, DL.kNot_1, DL.kNot_2, DL.tNotF_k, DL.kEIf_0, DL.kEIf_1, DL.kEIf_2, DL.eIf_k, DL.kEAnd2_0, DL.kEAnd2_1, DL.kEAnd2_2, DL.kEAnd_0, DL.kEAnd_1, DL.eAnd_k, DL.kEOr2_0, DL.kEOr2_1, DL.kEOr2_2, DL.kEOr_0, DL.kEOr_1, DL.eOr_k, DL.kENot2_0, DL.kENot2_1, DL.kENot2_2, DL.kENot_0, DL.kENot_1, DL.eNot_k, DL.kSl3_0, DL.kSl3_1, DL.kSl2_0, DL.kSl2_1, DL.kSl_0, DL.kSl_1, DL.eSl_k, DL.oNone_k, DL.kOS_0, DL.kOS_1, DL.oSome_k, DL.kKw2_0, DL.kKw2_1, DL.kKw_0, DL.kKw_1, DL.eKw_k, DL.truD_bl, DL.blD_bl, DL.addD_i, DL.subD_i, DL.ltI_i, DL.leI_i, DL.gtI_i, DL.geI_i, DL.negD_i, DL.intD_i, DL.intD_b, DL.max2D_i, DL.min2D_i, DL.gcdD_i, DL.lenD_t, DL.lenD_f, DL.isD_nn, DL.isD_in, DL.isD_tn, DL.isD_bn, DL.isD_sn, DL.isD_ib, DL.isD_tb, DL.isD_bb, DL.isD_sb, DL.isD_nb, DL.isnD_bb, DL.isi_i, DL.isi_b, DL.isi_t, DL.isi_s, DL.isi_n, DL.isTy_ii, DL.isTy_bi, DL.isTy_ib, DL.isTy_bb, DL.isTy_tt, DL.isTy_it, DL.isTy_bt, DL.isTy_ti, DL.isTy_is, DL.isTy_bs, DL.isTy_ss, DL.isTy_st, DL.isTy_nt, DL.isTy_ns, DL.isTy_ni, DL.isTy_ts, DL.isTy_si, DL.isTy_tb, DL.mulD_i, DL.modD_i, DL.fdivD_i, DL.powD_i, DL.tupD_k, DL.lstD_k, DL.fnD_k, DL.endR_rt, DL.endR_nx, DL.endR_ex, List.map_cons, List.map_nil, List.replicate_succ, List.replicate_zero, List.cons_append, List.nil_append, List.getElem?_cons_zero, List.getElem?_cons_succ, List.set_cons_zero, List.set_cons_succ, Nat.reduceSub, Nat.reduceAdd, List.length_cons, List.length_nil, List.any_cons, List.any_nil, Bool.or_false, Bool.or_true, Bool.not_true, Bool.not_false, Nat.reduceLeDiff, Bool.false_or, Bool.true_or, DL.trim_eq, DL.sFor_k, DL.kFor_0, DL.cSrc_k, DL.kSrc_0, DL.cApp_k, DL.kSrcA_0, DL.srcD_t, DL.srcD_f, DL.eqD_ii, DL.neD_ii, DL.ix_t0, DL.ix_t1, h1, h2, decide_true, decide_false, r]
  simp only [F_moment, B_moment, DL.kSeq_0, DL.kSeq_1, DL.kSeq_2, DL.kSeq_3, DL.kSeq_4, DL.sSeq_k, DL.sSkip_k, DL.sBreak_k, DL.sCont_k, DL.sRetN_k, DL.kExpr_0, DL.kExpr_1, DL.sExpr_k, DL.kRet_0, DL.kRet_1, DL.sRet_k, DL.kIf_0, DL.kIf_1, DL.kIf_2, DL.sIf_k, DL.kAsg2_0, DL.kAsg_0, DL.kAsg_1, DL.sAsg_k, DL.sSet_k, DL.gN_k, DL.gsN_k, DL.kG_0, DL.gsC_k, DL.gT_k, DL.kPut4_0, DL.kPut3_0, DL.kPut3_1, DL.kPut2_0, DL.kPut2_1, DL.kPut_0, DL.kPut_1, DL.sPut_k, DL.sPar_k, DL.kVar_0, DL.eVar_k, DL.eC_k, DL.kUn_0, DL.kUn_1, DL.eUn_k, DL.eIsi_k, DL.kBin2_0, DL.kBin2_1, DL.kBin_0, DL.kBin_1, DL.eBin_k, DL.aNil_k, DL.kCons2_0, DL.kCons2_1, DL.kCons_0, DL.kCons_1, DL.aCons_k, DL.kApp_0, DL.kApp_1, DL.eApp_k, DL.kMt2_0, DL.kMt2_1, DL.kMt1_0, DL.kMt_0, DL.kMt_1, DL.eMt_k, DL.kTru_0, DL.kTru_1, DL.tTru_k, DL.kAnd_0, DL.kAnd_1, DL.kAnd_2, DL.tAndF_k, DL.kOr_0, DL.kOr_1, DL.kOr_2, DL.tOrF_k, DL.kNot_0, DL.kNot_1, DL.kNot_2, DL.tNotF_k, DL.kEIf_0, DL.kEIf_1, DL.kEIf_2, DL.eIf_k, DL.kEAnd2_0, DL.kEAnd2_1, DL.kEAnd2_2, DL.kEAnd_0, DL.kEAnd_1, DL.eAnd_k, DL.kEOr2_0, DL.kEOr2_1, DL.kEOr2_2, DL.kEOr_0, DL.kEOr_1, DL.eOr_k, DL.kENot2_0, DL.kENot2_1, DL.kENot2_2, DL.kENot_0, DL.kENot_1, DL.eNot_k, DL.kSl3_0, DL.kSl3_1, DL.kSl2_0, DL.kSl2_1, DL.kSl_0, DL.kSl_1, DL.eSl_k, DL.oNone_k, DL.kOS_0, DL.kOS_1, DL.oSome_k, DL.kKw2_0, DL.kKw2_1, DL.kKw_0, DL.kKw_1, DL.eKw_k, DL.truD_bl, DL.blD_bl, DL.addD_i, DL.subD_i, DL.ltI_i, DL.leI_i, DL.gtI_i, DL.geI_i, DL.negD_i, DL.intD_i, DL.intD_b, DL.max2D_i, DL.min2D_i, DL.gcdD_i, DL.lenD_t, DL.lenD_f, DL.isD_nn, DL.isD_in, DL.isD_tn, DL.isD_bn, DL.isD_sn, DL.isD_ib, DL.isD_tb, DL.isD_bb, DL.isD_sb, DL.isD_nb, DL.isnD_bb, DL.isi_i, DL.isi_b, DL.isi_t, DL.isi_s, DL.isi_n, DL.isTy_ii, DL.isTy_bi, DL.isTy_ib, DL.isTy_bb, DL.isTy_tt, DL.isTy_it, DL.isTy_bt, DL.isTy_ti, DL.isTy_is, DL.isTy_bs, DL.isTy_ss, DL.isTy_st, DL.isTy_nt, DL.isTy_ns, DL.isTy_ni, DL.isTy_ts, DL.isTy_si, DL.isTy_tb, DL.mulD_i, DL.modD_i, DL.fdivD_i, DL.powD_i, DL.tupD_k, DL.lstD_k, DL.fnD_k, DL.endR_rt, DL.endR_nx, DL.endR_ex, List.map_cons, List.map_nil, List.replicate_succ, List.replicate_zero, List.cons_append, List.nil_append, List.getElem?_cons_zero, List.getElem?_cons_succ, List.set_cons_zero, List.set_cons_succ, Nat.reduceSub, Nat.reduceAdd, List.length_cons, List.length_nil, List.any_cons, List.any_nil, Bool.or_false, Bool.or_true, Bool.not_true, Bool.not_false, Nat.reduceLeDiff, Bool.false_or, Bool.true_or, DL.trim_eq, DL.sFor_k, DL.kFor_0, DL.cSrc_k, DL.kSrc_0, DL.cApp_k, DL.kSrcA_0, DL.srcD_t, DL.srcD_f, DL.eqD_ii, DL.neD_ii, DL.ix_t0, DL.ix_t1, e, trim_ex]
theorem G_moment_2 (a b : D) (s : Sto) : G_moment [a, b] s = F_moment [a, b] s := by simp [G_moment, dflF]
theorem G_moment_1 (a : D) (s : Sto) : G_moment [a] s = F_moment [a, .int 1] s := by simp [G_moment, dflF]
theorem K_moment (a b : D) (s : Sto) : K_moment_1_denominator [a, b] s = F_moment [a, b] s := by simp [K_moment_1_denominator, kwF]
theorem is_whole_i (i : Int) (s : Sto) : F_is_whole [.int i] s = .ok (.bl true) s := by
  simp only [F_is_whole, B_is_whole, S_is_whole_0, DL.kSeq_0, DL.kSeq_1, DL.kSeq_2, DL.kSeq_3, DL.kSeq_4, DL.sSeq_k, DL.sSkip_k, DL.sBreak_k, DL.sCont_k, DL.sRetN_k, DL.kExpr_0, DL.kExpr_1, DL.sExpr_k, DL.kRet_0, DL.kRet_1, DL.sRet_k, DL.kIf_0, DL.kIf_1, DL.kIf_2, DL.sIf_k, DL.kAsg2_0, DL.kAsg_0, DL.kAsg_1, DL.sAsg_k, DL.sSet_k, DL.gN_k, DL.gsN_k, DL.kG_0, DL.gsC_k, DL.gT_k, DL.kPut4_0, DL.kPut3_0, DL.kPut3_1, DL.kPut2_0, DL.kPut2_1, DL.kPut_0, DL.kPut_1, DL.sPut_k, DL.sPar_k, DL.kVar_0, DL.eVar_k, DL.eC_k, DL.kUn_0, DL.kUn_1, DL.eUn_k, DL.eIsi_k, DL.kBin2_0, DL.kBin2_1, DL.kBin_0, DL.kBin_1, DL.eBin_k, DL.aNil_k, DL.kCons2_0, DL.kCons2_1, DL.kCons_0, DL.kCons_1, DL.aCons_k, DL.kApp_0, DL.kApp_1, DL.eApp_k, DL.kMt2_0, DL.kMt2_1, DL.kMt1_0, DL.kMt_0, DL.kMt_1, DL.eMt_k, DL.kTru_0, DL.kTru_1, DL.tTru_k, DL.kAnd_0, DL.kAnd_1, DL.kAnd_2, DL.tAndF_k, DL.kOr_0, DL.kOr_1, DL.kOr_2, DL.tOrF_k, DL.kNot_0, DL.kNot_1, DL.kNot_2, DL.tNotF_k, DL.kEIf_0, DL.kEIf_1, DL.kEIf_2, DL.eIf_k, DL.kEAnd2_0, DL.kEAnd2_1, DL.kEAnd2_2, DL.kEAnd_0, DL.kEAnd_1, DL.eAnd_k, DL.kEOr2_0, DL.kEOr2_1, DL.kEOr2_2, DL.kEOr_0, DL.kEOr_1, DL.eOr_k, DL.kENot2_0, DL.kENot2_1, DL.kENot2_2, DL.kENot_0, DL.kENot_1, DL.eNot_k, DL.kSl3_0, DL.kSl3_1, DL.kSl2_0, DL.kSl2_1, DL.kSl_0, DL.kSl_1, DL.eSl_k, DL.oNone_k, DL.kOS_0, DL.kOS_1, DL.oSome_k, DL.kKw2_0, DL.kKw2_1, DL.kKw_0, DL.kKw_1, DL.eKw_k, DL.truD_bl, DL.blD_bl, DL.addD_i, DL.subD_i, DL.ltI_i, DL.leI_i, DL.gtI_i, DL.geI_i, DL.negD_i, DL.intD_i, DL.intD_b, DL.max2D_i, DL.min2D_i, DL.gcdD_i, DL.lenD_t, DL.lenD_f, DL.isD_nn, DL.isD_in, DL.isD_tn, DL.isD_bn, DL.isD_sn, DL.isD_ib, DL.isD_tb, DL.isD_bb, DL.isD_sb, DL.isD_nb, DL.isnD_bb, DL.isi_i, DL.isi_b, DL.isi_t, DL.isi_s, DL.isi_n, DL.isTy_ii, DL.isTy_bi, DL.isTy_ib, DL.isTy_bb, DL.isTy_tt, DL.isTy_it, DL.isTy_bt, DL.isTy_ti, DL.isTy_is, DL.isTy_bs, DL.isTy_ss, DL.isTy_st, DL.isTy_nt, DL.isTy_ns, DL.isTy_ni, DL.isTy_ts, DL.isTy_si, DL.isTy_tb, DL.mulD_i, DL.modD_i, DL.fdivD_i, DL.powD_i, DL.tupD_k, DL.lstD_k, DL.fnD_k, DL.endR_rt, DL.endR_nx, DL.endR_ex, List.map_cons, List.map_nil, List.replicate_succ, List.replicate_zero, List.cons_append, List.nil_append, List.getElem?_cons_zero, List.getElem?_cons_succ, List.set_cons_zero, List.set_cons_succ, Nat.reduceSub, Nat.reduceAdd, List.length_cons, List.length_nil, List.any_cons, List.any_nil, Bool.or_false, Bool.or_true, Bool.not_true, Bool.not_false, Nat.reduceLeDiff, Bool.false_or, Bool.true_or, DL.trim_eq, DL.sFor_k, DL.kFor_0, DL.cSrc_k, DL.kSrc_0, DL.cApp_k, DL.kSrcA_0, DL.srcD_t, DL.srcD_f, DL.eqD_ii, DL.neD_ii, DL.ix_t0, DL.ix_t1]
theorem is_moment_t (p q : Int) (s : Sto) : F_is_moment [.tup [.int p, .int q]] s = .ok (.bl (decide (0 ≤ p) && (decide (1 ≤ q) && (gI p q == 1)))) s := by
  simp only [F_is_moment, B_is_moment, DL.kSeq_0, DL.kSeq_1, DL.kSeq_2, DL.kSeq_3, DL.kSeq_4, DL.sSeq_k, DL.sSkip_k, DL.sBreak_k, DL.sCont_k, DL.sRetN_k, DL.kExpr_0, DL.kExpr_1, DL.sExpr_k, DL.kRet_0, DL.kRet_1, DL.sRet_k, DL.kIf_0, DL.kIf_1, DL.kIf_2, DL.sIf_k, DL.kAsg2_0, DL.kAsg_0, DL.kAsg_1, DL.sAsg_k, DL.sSet_k, DL.gN_k, DL.gsN_k, DL.kG_0, DL.gsC_k, DL.gT_k, DL.kPut4_0, DL.kPut3_0, DL.kPut3_1, DL.kPut2_0, DL.kPut2_1, DL.kPut_0, DL.kPut_1, DL.sPut_k, DL.sPar_k, DL.kVar_0, DL.eVar_k, DL.eC_k, DL.kUn_0, DL.kUn_1, DL.eUn_k, DL.eIsi_k, DL.kBin2_0, DL.kBin2_1, DL.kBin_0, DL.kBin_1, DL.eBin_k, DL.aNil_k, DL.kCons2_0, DL.kCons2_1, DL.kCons_0, DL.kCons_1, DL.aCons_k, DL.kApp_0, DL.kApp_1, DL.eApp_k, DL.kMt2_0, DL.kMt2_1, DL.kMt1_0, DL.kMt_0, DL.kMt_1, DL.eMt_k, DL.kTru_0, DL.kTru_1, DL.tTru_k, DL.kAnd_0, DL.kAnd_1, DL.kAnd_2, DL.tAndF_k, DL.kOr_0, DL.kOr_1, DL.kOr_2, DL.tOrF_k, DL.kNot_0, DL.kNot_1, DL.kNot_2, DL.tNotF_k, DL.kEIf_0, DL.kEIf_1, DL.kEIf_2, DL.eIf_k, DL.kEAnd2_0, DL.kEAnd2_1, DL.kEAnd2_2, DL.kEAnd_0, DL.kEAnd_1, DL.eAnd_k, DL.kEOr2_0, DL.kEOr2_1, DL.kEOr2_2, DL.kEOr_0, DL.kEOr_1, DL.eOr_k, DL.kENot2_0, DL.kENot2_1, DL.kENot2_2, DL.kENot_0, DL.kENot_1, DL.eNot_k, DL.kSl3_0, DL.kSl3_1, DL.kSl2_0, DL.kSl2_1, DL.kSl_0, DL.kSl_1, DL.eSl_k, DL.oNone_k, DL.kOS_0, DL.kOS_1, DL.oSome_k, DL.kKw2_0, DL.kKw2_1, DL.kKw_0, DL.kKw_1, DL.eKw_k, DL.truD_bl, DL.blD_bl, DL.addD_i, DL.subD_i, DL.ltI_i, DL.leI_i, DL.gtI_i, DL.geI_i, DL.negD_i, DL.intD_i, DL.intD_b, DL.max2D_i, DL.min2D_i, DL.gcdD_i, DL.lenD_t, DL.lenD_f, DL.isD_nn, DL.isD_in, DL.isD_tn, DL.isD_bn, DL.isD_sn, DL.isD_ib, DL.isD_tb, DL.isD_bb, DL.isD_sb, DL.isD_nb, DL.isnD_bb, DL.isi_i, DL.isi_b, DL.isi_t, DL.isi_s, DL.isi_n, DL.isTy_ii, DL.isTy_bi, DL.isTy_ib, DL.isTy_bb, DL.isTy_tt, DL.isTy_it, DL.isTy_bt, DL.isTy_ti, DL.isTy_is, DL.isTy_bs, DL.isTy_ss, DL.isTy_st, DL.isTy_nt, DL.isTy_ns, DL.isTy_ni, DL.isTy_ts, DL.isTy_si, DL.isTy_tb, DL.mulD_i, DL.modD_i, DL.fdivD_i, DL.powD_i, DL.tupD_k, DL.lstD_k, DL.fnD_k, DL.endR_rt, DL.endR_nx, DL.endR_ex, List.map_cons, List.map_nil, List.replicate_succ, List.replicate_zero, List.cons_append, List.nil_append, List.getElem?_cons_zero, List.getElem?_cons_succ, List.set_cons_zero, List.set_cons_succ, Nat.reduceSub, Nat.reduceAdd, List.length_cons, List.length_nil, List.any_cons, List.any_nil, Bool.or_false, Bool.or_true, Bool.not_true, Bool.not_false, Nat.reduceLeDiff, Bool.false_or, Bool.true_or, DL.trim_eq, DL.sFor_k, DL.kFor_0, DL.cSrc_k, DL.kSrc_0, DL.cApp_k, DL.kSrcA_0, DL.srcD_t, DL.srcD_f, DL.eqD_ii, DL.neD_ii, DL.ix_t0, DL.ix_t1]
  simp only [S_is_moment_0, DL.kSeq_0, DL.kSeq_1, DL.kSeq_2, DL.kSeq_3, DL.kSeq_4, DL.sSeq_k, DL.sSkip_k, DL.sBreak_k, DL.sCont_k, DL.sRetN_k, DL.kExpr_0, DL.kExpr_1, DL.sExpr_k, DL.kRet_0, DL.kRet_1, DL.sRet_k, DL.kIf_0, DL.kIf_1, DL.kIf_2, DL.sIf_k, DL.kAsg2_0, DL.kAsg_0, DL.kAsg_1, DL.sAsg_k, DL.sSet_k, DL.gN_k, DL.gsN_k, DL.kG_0, DL.gsC_k, DL.gT_k, DL.kPut4_0, DL.kPut3_0, DL.kPut3_1, DL.kPut2_0, DL.kPut2_1, DL.kPut_0, DL.kPut_1, DL.sPut_k, DL.sPar_k, DL.kVar_0, DL.eVar_k, DL.eC_k, DL.kUn_0, DL.kUn_1, DL.eUn_k, DL.eIsi_k, DL.kBin2_0, DL.kBin2_1, DL.kBin_0, DL.kBin_1, DL.eBin_k, DL.aNil_k, DL.kCons2_0, DL.kCons2_1, DL.kCons_0, DL.kCons_1, DL.aCons_k, DL.kApp_0, DL.kApp_1, DL.eApp_k, DL.kMt2_0, DL.kMt2_1, DL.kMt1_0, DL.kMt_0, DL.kMt_1, DL.eMt_k, DL.kTru_0, DL.kTru_1, DL.tTru_k, DL.kAnd_0, DL.kAnd_1, DL.kAnd_2, DL.tAndF_k, DL.kOr_0, DL.kOr_1, DL.kOr_2, DL.tOrF_k, DL.kNot_0, DL.kNot_1, DL.kNot_2, DL.tNotF_k, DL.kEIf_0, DL.kEIf_1, DL.kEIf_2, DL.eIf_k, DL.kEAnd2_0, DL.kEAnd2_1, DL.kEAnd2_2, DL.kEAnd_0, DL.kEAnd_1, DL.eAnd_k, DL.kEOr2_0, DL.kEOr2_1, DL.kEOr2_2, DL.kEOr_0, DL.kEOr_1, DL.eOr_k, DL.kENot2_0, DL.kENot2_1, DL.kENot2_2, DL.kENot_0, DL.kENot_1, DL.eNot_k, DL.kSl3_0, DL.kSl3_1, DL.kSl2_0, DL.kSl2_1, DL.kSl_0, DL.kSl_1, DL.eSl_k, DL.oNone_k, DL.kOS_0, DL.kOS_1, DL.oSome_k, DL.kKw2_0, DL.kKw2_1, DL.kKw_0, DL.kKw_1, DL.eKw_k, DL.truD_bl, DL.blD_bl, DL.addD_i, DL.subD_i, DL.ltI_i, DL.leI_i, DL.gtI_i, DL.geI_i, DL.negD_i, DL.intD_i, DL.intD_b, DL.max2D_i, DL.min2D_i, DL.gcdD_i, DL.lenD_t, DL.lenD_f, DL.isD_nn, DL.isD_in, DL.isD_tn, DL.isD_bn, DL.isD_sn, DL.isD_ib, DL.isD_tb, DL.isD_bb, DL.isD_sb, DL.isD_nb, DL.isnD_bb, DL.isi_i, DL.isi_b, DL.isi_t, DL.isi_s, DL.isi_n, DL.isTy_ii, DL.isTy_bi, DL.isTy_ib, DL.isTy_bb, DL.isTy_tt, DL.isTy_it, DL.isTy_bt, DL.isTy_ti, DL.isTy_is, DL.isTy_bs, DL.isTy_ss, DL.isTy_st, DL.isTy_nt, DL.isTy_ns, DL.isTy_ni, DL.isTy_ts, DL.isTy_si, DL.isTy_tb, DL.mulD_i, DL.modD_i, DL.fdivD_i, DL.powD_i, DL.tupD_k, DL.lstD_k, DL.fnD_k, DL.endR_rt, DL.endR_nx, DL.endR_ex, List.map_cons, List.map_nil, List.replicate_succ, List.replicate_zero, List.cons_append, List.nil_append, List.getElem?_cons_zero, List.getElem?_cons_succ, List.set_cons_zero, List.set_cons_succ, Nat.reduceSub, Nat.reduceAdd, List.length_cons, List.length_nil, List.any_cons, List.any_nil, Bool.or_false, Bool.or_true, Bool.not_true, Bool.not_false, Nat.reduceLeDiff, Bool.false_or, Bool.true_or, DL.trim_eq, DL.sFor_k, DL.kFor_0, DL.cSrc_k, DL.kSrc_0, DL.cApp_k, DL.kSrcA_0, DL.srcD_t, DL.srcD_f, DL.eqD_ii, DL.neD_ii, DL.ix_t0, DL.ix_t1]
  simp only [show (!(((0 + 1 + 1 : Nat) : Int) == 2)) = false from rfl, DL.kSeq_0, DL.kSeq_1, DL.kSeq_2, DL.kSeq_3, DL.kSeq_4, DL.sSeq_k, DL.sSkip_k, DL.sBreak_k, DL.sCont_k, DL.sRetN_k, DL.kExpr_0, DL.kExpr_1, DL.sExpr_k, DL.kRet_0, DL.kRet_1, DL.sRet_k, DL.kIf_0, DL.kIf_1, DL.kIf_2, DL.sIf_k, DL.kAsg2_0, DL.kAsg_0, DL.kAsg_1, DL.sAsg_k, DL.sSet_k, DL.gN_k, DL.gsN_k, DL.kG_0, DL.gsC_k, DL.gT_k, DL.kPut4_0, DL.kPut3_0, DL.kPut3_1, DL.kPut2_0, DL.kPut2_1, DL.kPut_0, DL.kPut_1, DL.sPut_k, DL.sPar_k, DL.kVar_0, DL.eVar_k, DL.eC_k, DL.kUn_0, DL.kUn_1, DL.eUn_k, DL.eIsi_k, DL.kBin2_0, DL.kBin2_1, DL.kBin_0, DL.kBin_1, DL.eBin_k, DL.aNil_k, DL.kCons2_0, DL.kCons2_1, DL.kCons_0, DL.kCons_1, DL.aCons_k, DL.kApp_0, DL.kApp_1, DL.eApp_k, DL.kMt2_0, DL.kMt2_1, DL.kMt1_0, DL.kMt_0, DL.kMt_1, DL.eMt_k, DL.kTru_0, DL.kTru_1, DL.tTru_k, DL.kAnd_0, DL.kAnd_1, DL.kAnd_2, DL.tAndF_k, DL.kOr_0, DL.kOr_1, DL.kOr_2, DL.tOrF_k, DL.kNot_0, DL.kNot_1, DL.kNot_2, DL.tNotF_k, DL.kEIf_0, DL.kEIf_1, DL.kEIf_2, DL.eIf_k, DL.kEAnd2_0, DL.kEAnd2_1, DL.kEAnd2_2, DL.kEAnd_0, DL.kEAnd_1, DL.eAnd_k, DL.kEOr2_0, DL.kEOr2_1, DL.kEOr2_2, DL.kEOr_0, DL.kEOr_1, DL.eOr_k, DL.kENot2_0, DL.kENot2_1, DL.kENot2_2, DL.kENot_0, DL.kENot_1, DL.eNot_k, DL.kSl3_0, DL.kSl3_1, DL.kSl2_0, DL.kSl2_1, DL.kSl_0, DL.kSl_1, DL.eSl_k, DL.oNone_k, DL.kOS_0, DL.kOS_1, DL.oSome_k, DL.kKw2_0, DL.kKw2_1, DL.kKw_0, DL.kKw_1, DL.eKw_k, DL.truD_bl, DL.blD_bl, DL.addD_i, DL.subD_i, DL.ltI_i, DL.leI_i, DL.gtI_i, DL.geI_i, DL.negD_i, DL.intD_i, DL.intD_b, DL.max2D_i, DL.min2D_i, DL.gcdD_i, DL.lenD_t, DL.lenD_f, DL.isD_nn, DL.isD_in, DL.isD_tn, DL.isD_bn, DL.isD_sn, DL.isD_ib, DL.isD_tb, DL.isD_bb, DL.isD_sb, DL.isD_nb, DL.isnD_bb, DL.isi_i, DL.isi_b, DL.isi_t, DL.isi_s, DL.isi_n, DL.isTy_ii, DL.isTy_bi, DL.isTy_ib, DL.isTy_bb, DL.isTy_tt, DL.isTy_it, DL.isTy_bt, DL.isTy_ti, DL.isTy_is, DL.isTy_bs, DL.isTy_ss, DL.isTy_st, DL.isTy_nt, DL.isTy_ns, DL.isTy_ni, DL.isTy_ts, DL.isTy_si, DL.isTy_tb, DL.mulD_i, DL.modD_i, DL.fdivD_i, DL.powD_i, DL.tupD_k, DL.lstD_k, DL.fnD_k, DL.endR_rt, DL.endR_nx, DL.endR_ex, List.map_cons, List.map_nil, List.replicate_succ, List.replicate_zero, List.cons_append, List.nil_append, List.getElem?_cons_zero, List.getElem?_cons_succ, List.set_cons_zero, List.set_cons_succ, Nat.reduceSub, Nat.reduceAdd, List.length_cons, List.length_nil, List.any_cons, List.any_nil, Bool.or_false, Bool.or_true, Bool.not_true, Bool.not_false, Nat.reduceLeDiff, Bool.false_or, Bool.true_or, DL.trim_eq, DL.sFor_k, DL.kFor_0, DL.cSrc_k, DL.kSrc_0, DL.cApp_k, DL.kSrcA_0, DL.srcD_t, DL.srcD_f, DL.eqD_ii, DL.neD_ii, DL.ix_t0, DL.ix_t1]
  simp only [S_is_moment_1, S_is_moment_2, DL.kSeq_0, DL.kSeq_1, DL.kSeq_2, DL.kSeq_3, DL.kSeq_4, DL.sSeq_k, DL.sSkip_k, DL.sBreak_k, DL.sCont_k, DL.sRetN_k, DL.kExpr_0, DL.kExpr_1, DL.sExpr_k, DL.kRet_0, DL.kRet_1, DL.sRet_k, DL.kIf_0, DL.kIf_1, DL.kIf_2, DL.sIf_k, DL.kAsg2_0, DL.kAsg_0, DL.kAsg_1, DL.sAsg_k, DL.sSet_k, DL.gN_k, DL.gsN_k, DL.kG_0, DL.gsC_k, DL.gT_k, DL.kPut4_0, DL.kPut3_0, DL.kPut3_1, DL.kPut2_0, DL.kPut2_1, DL.kPut_0, DL.kPut_1, DL.sPut_k, DL.sPar_k, DL.kVar_0, DL.eVar_k, DL.eC_k, DL.kUn_0, DL.kUn_1, DL.eUn_k, DL.eIsi_k, DL.kBin2_0, DL.kBin2_1, DL.kBin_0, DL.kBin_1, DL.eBin_k, DL.aNil_k, DL.kCons2_0, DL.kCons2_1, DL.kCons_0, DL.kCons_1, DL.aCons_k, DL.kApp_0, DL.kApp_1, DL.eApp_k, DL.kMt2_0, DL.kMt2_1, DL.kMt1_0, DL.kMt_0, DL.kMt_1, DL.eMt_k, DL.kTru_0, DL.kTru_1, DL.tTru_k, DL.kAnd_0, DL.kAnd_1, DL.kAnd_2, DL.tAndF_k, DL.kOr_0, DL.kOr_1, DL.kOr_2, DL.tOrF_k, DL.kNot_0, DL.kNot_1, DL.kNot_2, DL.tNotF_k, DL.kEIf_0, DL.kEIf_1, DL.kEIf_2, DL.eIf_k, DL.kEAnd2_0, DL.kEAnd2_1, DL.kEAnd2_2, DL.kEAnd_0, DL.kEAnd_1, DL.eAnd_k, DL.kEOr2_0, DL.kEOr2_1, DL.kEOr2_2, DL.kEOr_0, DL.kEOr_1, DL.eOr_k, DL.kENot2_0, DL.kENot2_1, DL.kENot2_2, DL.kENot_0, DL.kENot_1, DL.eNot_k, DL.kSl3_0, DL.kSl3_1, DL.kSl2_0, DL.kSl2_1, DL.kSl_0, DL.kSl_1, DL.eSl_k, DL.oNone_k, DL.kOS_0, DL.kOS_1, DL.oSome_k, DL.kKw2_0, DL.kKw2_1, DL.kKw_0, DL.kKw_1, DL.eKw_k, DL.truD_bl, DL.blD_bl, DL.addD_i, DL.subD_i, DL.ltI_i, DL.leI_i, DL.gtI_i, DL.geI_i, DL.negD_i, DL.intD_i, DL.intD_b, DL.max2D_i, DL.min2D_i, DL.gcdD_i, DL.lenD_t, DL.lenD_f, DL.isD_nn, DL.isD_in, DL.isD_tn, DL.isD_bn, DL.isD_sn, DL.isD_ib, DL.isD_tb, DL.isD_bb, DL.isD_sb, DL.isD_nb, DL.isnD_bb, DL.isi_i, DL.isi_b, DL.isi_t, DL.isi_s, DL.isi_n, DL.isTy_ii, DL.isTy_bi, DL.isTy_ib, DL.isTy_bb, DL.isTy_tt, DL.isTy_it, DL.isTy_bt, DL.isTy_ti, DL.isTy_is, DL.isTy_bs, DL.isTy_ss, DL.isTy_st, DL.isTy_nt, DL.isTy_ns, DL.isTy_ni, DL.isTy_ts, DL.isTy_si, DL.isTy_tb, DL.mulD_i, DL.modD_i, DL.fdivD_i, DL.powD_i, DL.tupD_k, DL.lstD_k, DL.fnD_k, DL.endR_rt, DL.endR_nx, DL.endR_ex, List.map_cons, List.map_nil, List.replicate_succ, List.replicate_zero, List.cons_append, List.nil_append, List.getElem?_cons_zero, List.getElem?_cons_succ, List.set_cons_zero, List.set_cons_succ, Nat.reduceSub, Nat.reduceAdd, List.length_cons, List.length_nil, List.any_cons, List.any_nil, Bool.or_false, Bool.or_true, Bool.not_true, Bool.not_false, Nat.reduceLeDiff, Bool.false_or, Bool.true_or, DL.trim_eq, DL.sFor_k, DL.kFor_0, DL.cSrc_k, DL.kSrc_0, DL.cApp_k, DL.kSrcA_0, DL.srcD_t, DL.srcD_f, DL.eqD_ii, DL.neD_ii, DL.ix_t0, DL.ix_t1, is_whole_i]
  by_cases h1 : 0 ≤ p
  · by_cases h2 : 1 ≤ q
    · simp only [S_is_moment_3, DL.kSeq_0, DL.kSeq_1, DL.kSeq_2, DL.kSeq_3, DL.kSeq_4, DL.sSeq_k, DL.sSkip_k, DL.sBreak_k, DL.sCont_k, DL.sRetN_k, DL.kExpr_0, DL.kExpr_1, DL.sExpr_k, DL.kRet_0, DL.kRet_1, DL.sRet_k, DL.kIf_0, DL.kIf_1, DL.kIf_2, DL.sIf_k, DL.kAsg2_0, DL.kAsg_0, DL.kAsg_1, DL.sAsg_k, DL.sSet_k, DL.gN_k, DL.gsN_k, DL.kG_0, DL.gsC_k, DL.gT_k, DL.kPut4_0, DL.kPut3_0, DL.kPut3_1, DL.kPut2_0, DL.kPut2_1, DL.kPut_0, DL.kPut_1, DL.sPut_k, DL.sPar_k, DL.kVar_0, DL.eVar_k, DL.eC_k, DL.kUn_0, DL.kUn_1, DL.eUn_k, DL.eIsi_k, DL.kBin2_0, DL.kBin2_1, DL.kBin_0, DL.kBin_1, DL.eBin_k, DL.aNil_k, DL.kCons2_0, DL.kCons2_1, DL.kCons_0, DL.kCons_1, DL.aCons_k, DL.kApp_0, DL.kApp_1, DL.eApp_k, DL.kMt2_0, DL.kMt2_1, DL.kMt1_0, DL.kMt_0, DL.kMt_1, DL.eMt_k, DL.kTru_0, DL.kTru_1, DL.tTru_k, DL.kAnd_0, DL.kAnd_1, DL.kAnd_2, DL.tAndF_k, DL.kOr_0, DL.kOr_1, DL.kOr_2, DL.tOrF_k, DL.kNot_0, DL.kNot_1, DL.kNot_2, DL.tNotF_k, DL.kEIf_0, DL.kEIf_1, DL.kEIf_2, DL.eIf_k, DL.kEAnd2_0, DL.kEAnd2_1, DL.kEAnd2_2, DL.kEAnd_0, DL.kEAnd_1, DL.eAnd_k, DL.kEOr2_0, DL.kEOr2_1, DL.kEOr2_2, DL.kEOr_0, DL.kEOr_1, DL.eOr_k, DL.kENot2_0, DL.kENot2_1, DL.kENot2_2, DL.kENot_0, DL.kENot_1, DL.eNot_k, DL.kSl3_0, DL.kSl3_1, DL.kSl2_0, DL.kSl2_1, DL.kSl_0, DL.kSl_1, DL.eSl_k, DL.oNone_k, DL.kOS_0, DL.kOS_1, DL.oSome_k, DL.kKw2_0, DL.kKw2_1, DL.kKw_0, DL.kKw_1, DL.eKw_k, DL.truD_bl, DL.blD_bl, DL.addD_i, DL.subD_i, DL.ltI_i, DL.leI_i, DL.gtI_i, DL.geI_i, DL.negD_i, DL.intD_i, DL.intD_b, DL.max2D_i, DL.min2D_i, DL.gcdD_i, DL.lenD_t, DL.lenD_f, DL.isD_nn, DL.isD_in, DL.isD_tn, DL.isD_bn, DL.isD_sn, DL.isD_ib, DL.isD_tb, DL.isD_bb, DL.isD_sb, DL.isD_nb, DL.isnD_bb, DL.isi_i, DL.isi_b, DL.isi_t, DL.isi_s, DL.isi_n, DL.isTy_ii, DL.isTy_bi, DL.isTy_ib, DL.isTy_bb, DL.isTy_tt, DL.isTy_it, DL.isTy_bt, DL.isTy_ti, DL.isTy_is, DL.isTy_bs, DL.isTy_ss, DL.isTy_st, DL.isTy_nt, DL.isTy_ns, DL.isTy_ni, DL.isTy_ts, DL.isTy_si, DL.isTy_tb, DL.mulD_i, DL.modD_i, DL.fdivD_i, DL.powD_i, DL.tupD_k, DL.lstD_k, DL.fnD_k, DL.endR_rt, DL.endR_nx, DL.endR_ex, List.map_cons, List.map_nil, List.replicate_succ, List.replicate_zero, List.cons_append, List.nil_append, List.getElem?_cons_zero, List.getElem?_cons_succ, List.set_cons_zero, List.set_cons_succ, Nat.reduceSub, Nat.reduceAdd, List.length_cons, List.length_nil, List.any_cons, List.any_nil, Bool.or_false, Bool.or_true, Bool.not_true, Bool.not_false, Nat.reduceLeDiff, Bool.false_or, Bool.true_or, DL.trim_eq, DL.sFor_k, DL.kFor_0, DL.cSrc_k, DL.kSrc_0, DL.cApp_k, DL.kSrcA_0, DL.srcD_t, DL.srcD_f, DL.eqD_ii, DL.neD_ii, DL.ix_t0, DL.ix_t1, h1, h2, decide_true, Bool.true_and]
    · simp only [S_is_moment_3, DL.kSeq_0, DL.kSeq_1, DL.kSeq_2, DL.kSeq_3, DL.kSeq_4, DL.sSeq_k, DL.sSkip_k, DL.sBreak_k, DL.sCont_k, DL.sRetN_k, DL.kExpr_0, DL.kExpr_1, DL.sExpr_k, DL.kRet_0, DL.kRet_1, DL.sRet_k, DL.kIf_0, DL.kIf_1, DL.kIf_2, DL.sIf_k, DL.kAsg2_0, DL.kAsg_0, DL.kAsg_1, DL.sAsg_k, DL.sSet_k, DL.gN_k, DL.gsN_k, DL.kG_0, DL.gsC_k, DL.gT_k, DL.kPut4_0, DL.kPut3_0, DL.kPut3_1, DL.kPut2_0, DL.kPut2_1, DL.kPut_0, DL.kPut_1, DL.sPut_k, DL.sPar_k, DL.kVar_0, DL.eVar_k, DL.eC_k, DL.kUn_0, DL.kUn_1, DL.eUn_k, DL.eIsi_k, DL.kBin2_0, DL.kBin2_1, DL.kBin_0, DL.kBin_1, DL.eBin_k, DL.aNil_k, DL.kCons2_0, DL.kCons2_1, DL.kCons_0, DL.kCons_1, DL.aCons_k, DL.kApp_0, DL.kApp_1, DL.eApp_k, DL.kMt2_0, DL.kMt2_1, DL.kMt1_0, DL.kMt_0, DL.kMt_1, DL.eMt_k, DL.kTru_0, DL.kTru_1, DL.tTru_k, DL.kAnd_0, DL.kAnd_1, DL.kAnd_2, DL.tAndF_k, DL.kOr_0, DL.kOr_1, DL.kOr_2, DL.tOrF_k, DL.kNot_0, DL.kNot_1, DL.kNot_2, DL.tNotF_k, DL.kEIf_0, DL.kEIf_1, DL.kEIf_2, DL.eIf_k, DL.kEAnd2_0, DL.kEAnd2_1, DL.kEAnd2_2, DL.kEAnd_0, DL.kEAnd_1, DL.eAnd_k, DL.kEOr2_0, DL.kEOr2_1, DL.kEOr2_2, DL.kEOr_0, DL.kEOr_1, DL.eOr_k, DL.kENot2_0, DL.kENot2_1, DL.kENot2_2, DL.kENot_0, DL.kENot_1, DL.eNot_k, DL.kSl3_0, DL.kSl3_1, DL.kSl2_0, DL.kSl2_1, DL.kSl_0, DL.kSl_1, DL.eSl_k, DL.oNone_k, DL.kOS_0, DL.kOS_1, DL.oSome_k, DL.kKw2_0, DL.kKw2_1, DL.kKw_0, DL.kKw_1, DL.eKw_k, DL.truD_bl, DL.blD_bl, DL.addD_i, DL.subD_i, DL.ltI_i, DL.leI_i, DL.gtI_i, DL.geI_i, DL.negD_i, DL.intD_i, DL.intD_b, DL.max2D_i, DL.min2D_i, DL.gcdD_i, DL.lenD_t, DL.lenD_f, DL.isD_nn, DL.isD_in, DL.isD_tn, DL.isD_bn, DL.isD_sn, DL.isD_ib, DL.isD_tb, DL.isD_bb, DL.isD_sb, DL.isD_nb, DL.isnD_bb, DL.isi_i, DL.isi_b, DL.isi_t, DL.isi_s, DL.isi_n, DL.isTy_ii, DL.isTy_bi, DL.isTy_ib, DL.isTy_bb, DL.isTy_tt, DL.isTy_it, DL.isTy_bt, DL.isTy_ti, DL.isTy_is, DL.isTy_bs, DL.isTy_ss, DL.isTy_st, DL.isTy_nt, DL.isTy_ns, DL.isTy_ni, DL.isTy_ts, DL.isTy_si, DL.isTy_tb, DL.mulD_i, DL.modD_i, DL.fdivD_i, DL.powD_i, DL.tupD_k, DL.lstD_k, DL.fnD_k, DL.endR_rt, DL.endR_nx, DL.endR_ex, List.map_cons, List.map_nil, List.replicate_succ, List.replicate_zero, List.cons_append, List.nil_append, List.getElem?_cons_zero, List.getElem?_cons_succ, List.set_cons_zero, List.set_cons_succ, Nat.reduceSub, Nat.reduceAdd, List.length_cons, List.length_nil, List.any_cons, List.any_nil, Bool.or_false, Bool.or_true, Bool.not_true, Bool.not_false, Nat.reduceLeDiff, Bool.false_or, Bool.true_or, DL.trim_eq, DL.sFor_k, DL.kFor_0, DL.cSrc_k, DL.kSrc_0, DL.cApp_k, DL.kSrcA_0, DL.srcD_t, DL.srcD_f, DL.eqD_ii, DL.neD_ii, DL.ix_t0, DL.ix_t1, h1, h2, decide_true, decide_false, Bool.true_and, Bool.false_and]
  · simp only [S_is_moment_3, DL.kSeq_0, DL.kSeq_1, DL.kSeq_2, DL.kSeq_3, DL.kSeq_4, DL.sSeq_k, DL.sSkip_k, DL.sBreak_k, DL.sCont_k, DL.sRetN_k, DL.kExpr_0, DL.kExpr_1, DL.sExpr_k, DL.kRet_0, DL.kRet_1, DL.sRet_k, DL.kIf_0, DL.kIf_1, DL.kIf_2, DL.sIf_k, DL.kAsg2_0, DL.kAsg_0, DL.kAsg_1, DL.sAsg_k, DL.sSet_k, DL.gN_k, DL.gsN_k, DL.kG_0, DL.gsC_k, DL.gT_k, DL.kPut4_0, DL.kPut3_0, DL.kPut3_1, DL.kPut2_0, DL.kPut2_1, DL.kPut_0, DL.kPut_1, DL.sPut_k, DL.sPar_k, DL.kVar_0, DL.eVar_k, DL.eC_k, DL.kUn_0, DL.kUn_1, DL.eUn_k, DL.eIsi_k, DL.kBin2_0, DL.kBin2_1, DL.kBin_0, DL.kBin_1, DL.eBin_k, DL.aNil_k, DL.kCons2_0, DL.kCons2_1, DL.kCons_0, DL.kCons_1, DL.aCons_k, DL.kApp_0, DL.kApp_1, DL.eApp_k, DL.kMt2_0, DL.kMt2_1, DL.kMt1_0, DL.kMt_0, DL.kMt_1, DL.eMt_k, DL.kTru_0, DL.kTru_1, DL.tTru_k, DL.kAnd_0, DL.kAnd_1, DL.kAnd_2, DL.tAndF_k, DL.kOr_0, DL.kOr_1, DL.kOr_2, DL.tOrF_k, DL.kNot_0, DL.kNot_1, DL.kNot_2, DL.tNotF_k, DL.kEIf_0, DL.kEIf_1, DL.kEIf_2, DL.eIf_k, DL.kEAnd2_0, DL.kEAnd2_1, DL.kEAnd2_2, DL.kEAnd_0, DL.kEAnd_1, DL.eAnd_k, DL.kEOr2_0, DL.kEOr2_1, DL.kEOr2_2, DL.kEOr_0, DL.kEOr_1, DL.eOr_k, DL.kENot2_0, DL.kENot2_1, DL.kENot2_2, DL.kENot_0, DL.kENot_1, DL.eNot_k, DL.kSl3_0, DL.kSl3_1, DL.kSl2_0, DL.kSl2_1, DL.kSl_0, DL.kSl_1, DL.eSl_k, DL.oNone_k, DL.kOS_0, DL.kOS_1, DL.oSome_k, DL.kKw2_0, DL.kKw2_1, DL.kKw_0, DL.kKw_1, DL.eKw_k, DL.truD_bl, DL.blD_bl, DL.addD_i, DL.subD_i, DL.ltI_i, DL.leI_i, DL.gtI_i, DL.geI_i, DL.negD_i, DL.intD_i, DL.intD_b, DL.max2D_i, DL.min2D_i, DL.gcdD_i, DL.lenD_t, DL.lenD_f, DL.isD_nn, DL.isD_in, DL.isD_tn, DL.isD_bn, DL.isD_sn, DL.isD_ib, DL.isD_tb, DL.isD_bb, DL.isD_sb, DL.isD_nb, DL.isnD_bb, DL.isi_i, DL.isi_b, DL.isi_t, DL.isi_s, DL.isi_n, DL.isTy_ii, DL.isTy_bi, DL.isTy_ib, DL.isTy_bb, DL.isTy_tt, DL.isTy_it, DL.isTy_bt, DL.isTy_ti, DL.isTy_is, DL.isTy_bs, DL.isTy_ss, DL.isTy_st, DL.isTy_nt, DL.isTy_ns, DL.isTy_ni, DL.isTy_ts, DL.isTy_si, DL.isTy_tb, DL.mulD_i, DL.modD_i, DL.fdivD_i, DL.powD_i, DL.tupD_k, DL.lstD_k, DL.fnD_k, DL.endR_rt, DL.endR_nx, DL.endR_ex, List.map_cons, List.map_nil, List.replicate_succ, List.replicate_zero, List.cons_append, List.nil_append, List.getElem?_cons_zero, List.getElem?_cons_succ, List.set_cons_zero, List.set_cons_succ, Nat.reduceSub, Nat.reduceAdd, List.length_cons, List.length_nil, List.any_cons, List.any_nil, Bool.or_false, Bool.or_true, Bool.not_true, Bool.not_false, Nat.reduceLeDiff, Bool.false_or, Bool.true_or, DL.trim_eq, DL.sFor_k, DL.kFor_0, DL.cSrc_k, DL.kSrc_0, DL.cApp_k, DL.kSrcA_0, DL.srcD_t, DL.srcD_f, DL.eqD_ii, DL.neD_ii, DL.ix_t0, DL.ix_t1, h1, decide_false, Bool.false_and]

/-! ### sums -/
def sumStep (acc x : Int × Int) : Int × Int := low2 (acc.1 * x.2 + x.1 * acc.2) (acc.2 * x.2)
/-- a total behind i moments -/
structure Tot (i : Nat) (x : Int × Int) : Prop where
  t : 0 ≤ x.1
  b : 1 ≤ x.2
  t6 : x.1.natAbs < 2 ^ (150 * i + 1)
  b6 : x.2.natAbs < 2 ^ (150 * i + 1)
theorem natAbs_mul_lt {a b : Int} {m n : Nat} (h1 : a.natAbs < 2 ^ m) (h2 : b.natAbs < 2 ^ n) : (a * b).natAbs < 2 ^ (m + n) := by
  rw [Int.natAbs_mul a b, Nat.pow_add 2 m n]
  exact Nat.mul_lt_mul'' h1 h2
theorem natAbs_add_lt {a b : Int} {m : Nat} (h1 : a.natAbs < 2 ^ m) (h2 : b.natAbs < 2 ^ m) : (a + b).natAbs < 2 ^ (m + 1) := by
  have := Int.natAbs_add_le a b
  rw [Nat.pow_succ]
  omega
theorem natAbs_le_lt {a b : Int} {m : Nat} (h0 : 0 ≤ a) (h : a ≤ b) (h2 : b.natAbs < 2 ^ m) : a.natAbs < 2 ^ m := by omega
theorem pow_up {n : Nat} {a b : Nat} (h : n < 2 ^ a) (hab : a ≤ b) : n < 2 ^ b := Nat.lt_of_lt_of_le h (Nat.pow_le_pow_right (by decide) hab)
theorem Tot.step {i : Nat} {acc x : Int × Int} (T : Tot i acc) (M : Mo x) : Tot (i + 1) (sumStep acc x) ∧ 0 ≤ acc.1 * x.2 + x.1 * acc.2 ∧ 1 ≤ acc.2 * x.2 ∧ (acc.2 * x.2).natAbs < 2 ^ (150 * i + 65) := by
  have n1 : 0 ≤ acc.1 * x.2 := Int.mul_nonneg T.t (by have := M.b; omega)
  have n2 : 0 ≤ x.1 * acc.2 := Int.mul_nonneg M.t (by have := T.b; omega)
  have n3 : 1 ≤ acc.2 * x.2 := Int.mul_pos (by have := T.b; omega) (by have := M.b; omega)
  have l1 := natAbs_mul_lt T.t6 M.b6
  have l2 := natAbs_mul_lt M.t6 T.b6
  have l3 := natAbs_mul_lt T.b6 M.b6
  have l4 : (acc.1 * x.2 + x.1 * acc.2).natAbs < 2 ^ (150 * i + 66) := natAbs_add_lt (m := 150 * i + 65) (pow_up l1 (by omega)) (pow_up l2 (by omega))
  obtain ⟨q1, q2, _, q4, q5⟩ := low2_ok (show 0 ≤ acc.1 * x.2 + x.1 * acc.2 by omega) n3
  exact ⟨⟨q1, q2, natAbs_le_lt q1 q4 (pow_up l4 (by omega)), natAbs_le_lt (show 0 ≤ (sumStep acc x).2 by have : 1 ≤ (sumStep acc x).2 := q2; omega) q5 (pow_up l3 (by omega))⟩, by omega, n3, pow_up l3 (by omega)⟩
theorem Tot.zero : Tot 0 (0, 1) := ⟨by decide, by decide, by decide, by decide⟩
theorem L_added_ok {i : Nat} {acc x : Int × Int} {l : Sl} (T : Tot i acc) (M : Mo x) (hi : i < 50) (s : Sto) : L_added_0 [l, .d (mo acc), .d (.int x.1), .d (.int x.2)] s = .nx [l, .d (mo (sumStep acc x)), .d (.int x.1), .d (.int x.2)] s := by
  obtain ⟨_, q1, q2, q3⟩ := T.step M
  have m1 : mulOk acc.1 x.2 = true := mulOk_b T.t6 M.b6 (by omega) (by decide)
  have m2 : mulOk x.1 acc.2 = true := mulOk_b M.t6 T.b6 (by decide) (by omega)
  have m3 : mulOk acc.2 x.2 = true := mulOk_b T.b6 M.b6 (by omega) (by decide)
  have mm := moment_ok s q1 q2 (lt9000 q3 (by omega))
  simp only [L_added_0, DL.kSeq_0, DL.kSeq_1, DL.kSeq_2, DL.kSeq_3, DL.kSeq_4, DL.sSeq_k, DL.sSkip_k, DL.sBreak_k, DL.sCont_k, DL.sRetN_k, DL.kExpr_0, DL.kExpr_1, DL.sExpr_k, DL.kRet_0, DL.kRet_1, DL.sRet_k, DL.kIf_0, DL.kIf_1, DL.kIf_2, DL.sIf_k, DL.kAsg2_0, DL.kAsg_0, DL.kAsg_1, DL.sAsg_k, DL.sSet_k, DL.gN_k, DL.gsN_k, DL.kG_0, DL.gsC_k, DL.gT_k, DL.kPut4_0, DL.kPut3_0, DL.kPut3_1, DL.kPut2_0, DL.kPut2_1, DL.kPut_0, DL.kPut_1, DL.sPut_k, DL.sPar_k, DL.kVar_0, DL.eVar_k, DL.eC_k, DL.kUn_0, DL.kUn_1, DL.eUn_k, DL.eIsi_k, DL.kBin2_0, DL.kBin2_1, DL.kBin_0, DL.kBin_1, DL.eBin_k, DL.aNil_k, DL.kCons2_0, DL.kCons2_1, DL.kCons_0, DL.kCons_1, DL.aCons_k, DL.kApp_0, DL.kApp_1, DL.eApp_k, DL.kMt2_0, DL.kMt2_1, DL.kMt1_0, DL.kMt_0, DL.kMt_1, DL.eMt_k, DL.kTru_0, DL.kTru_1, DL.tTru_k, DL.kAnd_0, DL.kAnd_1, DL.kAnd_2, DL.tAndF_k, DL.kOr_0, DL.kOr_1, DL.kOr_2, DL.tOrF_k, DL.kNot_0, DL.kNot_1, DL.kNot_2, DL.tNotF_k, DL.kEIf_0, DL.kEIf_1, DL.kEIf_2, DL.eIf_k, DL.kEAnd2_0, DL.kEAnd2_1, DL.kEAnd2_2, DL.kEAnd_0, DL.kEAnd_1, DL.eAnd_k, DL.kEOr2_0, DL.kEOr2_1, DL.kEOr2_2, DL.kEOr_0, DL.kEOr_1, DL.eOr_k, DL.kENot2_0, DL.kENot2_1, DL.kENot2_2, DL.kENot_0, DL.kENot_1, DL.eNot_k, DL.kSl3_0, DL.kSl3_1, DL.kSl2_0, DL.kSl2_1, DL.kSl_0, DL.kSl_1, DL.eSl_k, DL.oNone_k, DL.kOS_0, DL.kOS_1, DL.oSome_k, DL.kKw2_0, DL.kKw2_1, DL.kKw_0, DL.kKw_1, DL.eKw_k, DL.truD_bl, DL.blD_bl, DL.addD_i, DL.subD_i, DL.ltI_i, DL.leI_i, DL.gtI_i, DL.geI_i, DL.negD_i, DL.intD_i, DL.intD_b, DL.max2D_i, DL.min2D_i, DL.gcdD_i, DL.lenD_t, DL.lenD_f, DL.isD_nn, DL.isD_in, DL.isD_tn, DL.isD_bn, DL.isD_sn, DL.isD_ib, DL.isD_tb, DL.isD_bb, DL.isD_sb, DL.isD_nb, DL.isnD_bb, DL.isi_i, DL.isi_b, DL.isi_t, DL.isi_s, DL.isi_n, DL.isTy_ii, DL.isTy_bi, DL.isTy_ib, DL.isTy_bb, DL.isTy_tt, DL.isTy_it, DL.isTy_bt, DL.isTy_ti, DL.isTy_is, DL.isTy_bs, DL.isTy_ss, DL.isTy_st, DL.isTy_nt, DL.isTy_ns, DL.isTy_ni, DL.isTy_ts, DL.isTy_si, DL.isTy_tb, DL.mulD_i, DL.modD_i, DL.fdivD_i, DL.powD_i, DL.tupD_k, DL.lstD_k, DL.fnD_k, DL.endR_rt, DL.endR_nx, DL.endR_ex, List.map_cons, List.map_nil, List.replicate_succ, List.replicate_zero, List.cons_append, List.nil_append, List.getElem?_cons_zero, List.getElem?_cons_succ, List.set_cons_zero, List.set_cons_succ, Nat.reduceSub, Nat.reduceAdd, List.length_cons, List.length_nil, List.any_cons, List.any_nil, Bool.or_false, Bool.or_true, Bool.not_true, Bool.not_false, Nat.reduceLeDiff, Bool.false_or, Bool.true_or, DL.trim_eq, DL.sFor_k, DL.kFor_0, DL.cSrc_k, DL.kSrc_0, DL.cApp_k, DL.kSrcA_0, DL.srcD_t, DL.srcD_f, DL.eqD_ii, DL.neD_ii, DL.ix_t0, DL.ix_t1, mulD_i _ _ _ m1, mulD_i _ _ _ m2, mulD_i _ _ _ m3, G_moment_2, mm]
  rfl
theorem added_ok (xs : List (Int × Int)) (s : Sto) (h : ∀ x ∈ xs, Mo x) (hz : xs.length ≤ 50) : F_added [.tup (xs.map mo)] s = .ok (mo (xs.foldl sumStep (0, 1))) s := by
  obtain ⟨ρ', s', e, hI⟩ := for_inv (S := .items (xs.map mo)) (g := gT (gsC (gN 2) (gsC (gN 3) gsN))) (F := L_added_0) (fun r ρ s1 => ∃ ys zs : List (Int × Int), ∃ c d : Sl, xs = ys ++ zs ∧ r = zs.map mo ∧ s1 = s ∧ ρ = [.d (.tup (xs.map mo)), .d (mo (ys.foldl sumStep (0, 1))), c, d] ∧ Tot ys.length (ys.foldl sumStep (0, 1)))
    (fun _ _ _ _ => trivial) (fun x r ρ s1 ⟨ys, zs, c, d, e1, e2, e3, e4, T⟩ => by
      cases zs with
      | nil => cases e2
      | cons z zs =>
        rw [List.map_cons] at e2
        obtain ⟨e5, e6⟩ := List.cons.inj e2
        subst e5 e6 e3 e4
        have M : Mo z := h z (by rw [e1]; simp)
        have hl : ys.length < 50 := by rw [e1] at hz; simp at hz; omega
        refine ⟨_, rfl, _, _, .inl (L_added_ok T M hl _), ys ++ [z], zs, .d (.int z.1), .d (.int z.2), by rw [e1]; simp, rfl, rfl, ?_, ?_⟩
        · rw [List.foldl_append]; rfl
        · rw [List.foldl_append, List.length_append]
          exact (T.step M).1) (ρ := [.d (.tup (xs.map mo)), .d (mo (0, 1)), .un, .un]) (s := s) ⟨[], xs, .un, .un, rfl, rfl, rfl, rfl, Tot.zero⟩
  obtain ⟨ys, zs, c, d, e1, e2, e3, e4, _⟩ := hI
  have ez : zs = [] := by
    cases zs with
    | nil => rfl
    | cons => cases e2
  subst ez e3 e4
  rw [List.append_nil] at e1
  subst e1
  simp only [F_added, B_added, S_added_0, S_added_1, DL.kSeq_0, DL.kSeq_1, DL.kSeq_2, DL.kSeq_3, DL.kSeq_4, DL.sSeq_k, DL.sSkip_k, DL.sBreak_k, DL.sCont_k, DL.sRetN_k, DL.kExpr_0, DL.kExpr_1, DL.sExpr_k, DL.kRet_0, DL.kRet_1, DL.sRet_k, DL.kIf_0, DL.kIf_1, DL.kIf_2, DL.sIf_k, DL.kAsg2_0, DL.kAsg_0, DL.kAsg_1, DL.sAsg_k, DL.sSet_k, DL.gN_k, DL.gsN_k, DL.kG_0, DL.gsC_k, DL.gT_k, DL.kPut4_0, DL.kPut3_0, DL.kPut3_1, DL.kPut2_0, DL.kPut2_1, DL.kPut_0, DL.kPut_1, DL.sPut_k, DL.sPar_k, DL.kVar_0, DL.eVar_k, DL.eC_k, DL.kUn_0, DL.kUn_1, DL.eUn_k, DL.eIsi_k, DL.kBin2_0, DL.kBin2_1, DL.kBin_0, DL.kBin_1, DL.eBin_k, DL.aNil_k, DL.kCons2_0, DL.kCons2_1, DL.kCons_0, DL.kCons_1, DL.aCons_k, DL.kApp_0, DL.kApp_1, DL.eApp_k, DL.kMt2_0, DL.kMt2_1, DL.kMt1_0, DL.kMt_0, DL.kMt_1, DL.eMt_k, DL.kTru_0, DL.kTru_1, DL.tTru_k, DL.kAnd_0, DL.kAnd_1, DL.kAnd_2, DL.tAndF_k, DL.kOr_0, DL.kOr_1, DL.kOr_2, DL.tOrF_k, DL.kNot_0, DL.kNot_1, DL.kNot_2, DL.tNotF_k, DL.kEIf_0, DL.kEIf_1, DL.kEIf_2, DL.eIf_k, DL.kEAnd2_0, DL.kEAnd2_1, DL.kEAnd2_2, DL.kEAnd_0, DL.kEAnd_1, DL.eAnd_k, DL.kEOr2_0, DL.kEOr2_1, DL.kEOr2_2, DL.kEOr_0, DL.kEOr_1, DL.eOr_k, DL.kENot2_0, DL.kENot2_1, DL.kENot2_2, DL.kENot_0, DL.kENot_1, DL.eNot_k, DL.kSl3_0, DL.kSl3_1, DL.kSl2_0, DL.kSl2_1, DL.kSl_0, DL.kSl_1, DL.eSl_k, DL.oNone_k, DL.kOS_0, DL.kOS_1, DL.oSome_k, DL.kKw2_0, DL.kKw2_1, DL.kKw_0, DL.kKw_1, DL.eKw_k, DL.truD_bl, DL.blD_bl, DL.addD_i, DL.subD_i, DL.ltI_i, DL.leI_i, DL.gtI_i, DL.geI_i, DL.negD_i, DL.intD_i, DL.intD_b, DL.max2D_i, DL.min2D_i, DL.gcdD_i, DL.lenD_t, DL.lenD_f, DL.isD_nn, DL.isD_in, DL.isD_tn, DL.isD_bn, DL.isD_sn, DL.isD_ib, DL.isD_tb, DL.isD_bb, DL.isD_sb, DL.isD_nb, DL.isnD_bb, DL.isi_i, DL.isi_b, DL.isi_t, DL.isi_s, DL.isi_n, DL.isTy_ii, DL.isTy_bi, DL.isTy_ib, DL.isTy_bb, DL.isTy_tt, DL.isTy_it, DL.isTy_bt, DL.isTy_ti, DL.isTy_is, DL.isTy_bs, DL.isTy_ss, DL.isTy_st, DL.isTy_nt, DL.isTy_ns, DL.isTy_ni, DL.isTy_ts, DL.isTy_si, DL.isTy_tb, DL.mulD_i, DL.modD_i, DL.fdivD_i, DL.powD_i, DL.tupD_k, DL.lstD_k, DL.fnD_k, DL.endR_rt, DL.endR_nx, DL.endR_ex, List.map_cons, List.map_nil, List.replicate_succ, List.replicate_zero, List.cons_append, List.nil_append, List.getElem?_cons_zero, List.getElem?_cons_succ, List.set_cons_zero, List.set_cons_succ, Nat.reduceSub, Nat.reduceAdd, List.length_cons, List.length_nil, List.any_cons, List.any_nil, Bool.or_false, Bool.or_true, Bool.not_true, Bool.not_false, Nat.reduceLeDiff, Bool.false_or, Bool.true_or, DL.trim_eq, DL.sFor_k, DL.kFor_0, DL.cSrc_k, DL.kSrc_0, DL.cApp_k, DL.kSrcA_0, DL.srcD_t, DL.srcD_f, DL.eqD_ii, DL.neD_ii, DL.ix_t0, DL.ix_t1]
  rw [e]
  simp only [S_added_2, DL.kSeq_0, DL.kSeq_1, DL.kSeq_2, DL.kSeq_3, DL.kSeq_4, DL.sSeq_k, DL.sSkip_k, DL.sBreak_k, DL.sCont_k, DL.sRetN_k, DL.kExpr_0, DL.kExpr_1, DL.sExpr_k, DL.kRet_0, DL.kRet_1, DL.sRet_k, DL.kIf_0, DL.kIf_1, DL.kIf_2, DL.sIf_k, DL.kAsg2_0, DL.kAsg_0, DL.kAsg_1, DL.sAsg_k, DL.sSet_k, DL.gN_k, DL.gsN_k, DL.kG_0, DL.gsC_k, DL.gT_k, DL.kPut4_0, DL.kPut3_0, DL.kPut3_1, DL.kPut2_0, DL.kPut2_1, DL.kPut_0, DL.kPut_1, DL.sPut_k, DL.sPar_k, DL.kVar_0, DL.eVar_k, DL.eC_k, DL.kUn_0, DL.kUn_1, DL.eUn_k, DL.eIsi_k, DL.kBin2_0, DL.kBin2_1, DL.kBin_0, DL.kBin_1, DL.eBin_k, DL.aNil_k, DL.kCons2_0, DL.kCons2_1, DL.kCons_0, DL.kCons_1, DL.aCons_k, DL.kApp_0, DL.kApp_1, DL.eApp_k, DL.kMt2_0, DL.kMt2_1, DL.kMt1_0, DL.kMt_0, DL.kMt_1, DL.eMt_k, DL.kTru_0, DL.kTru_1, DL.tTru_k, DL.kAnd_0, DL.kAnd_1, DL.kAnd_2, DL.tAndF_k, DL.kOr_0, DL.kOr_1, DL.kOr_2, DL.tOrF_k, DL.kNot_0, DL.kNot_1, DL.kNot_2, DL.tNotF_k, DL.kEIf_0, DL.kEIf_1, DL.kEIf_2, DL.eIf_k, DL.kEAnd2_0, DL.kEAnd2_1, DL.kEAnd2_2, DL.kEAnd_0, DL.kEAnd_1, DL.eAnd_k, DL.kEOr2_0, DL.kEOr2_1, DL.kEOr2_2, DL.kEOr_0, DL.kEOr_1, DL.eOr_k, DL.kENot2_0, DL.kENot2_1, DL.kENot2_2, DL.kENot_0, DL.kENot_1, DL.eNot_k, DL.kSl3_0, DL.kSl3_1, DL.kSl2_0, DL.kSl2_1, DL.kSl_0, DL.kSl_1, DL.eSl_k, DL.oNone_k, DL.kOS_0, DL.kOS_1, DL.oSome_k, DL.kKw2_0, DL.kKw2_1, DL.kKw_0, DL.kKw_1, DL.eKw_k, DL.truD_bl, DL.blD_bl, DL.addD_i, DL.subD_i, DL.ltI_i, DL.leI_i, DL.gtI_i, DL.geI_i, DL.negD_i, DL.intD_i, DL.intD_b, DL.max2D_i, DL.min2D_i, DL.gcdD_i, DL.lenD_t, DL.lenD_f, DL.isD_nn, DL.isD_in, DL.isD_tn, DL.isD_bn, DL.isD_sn, DL.isD_ib, DL.isD_tb, DL.isD_bb, DL.isD_sb, DL.isD_nb, DL.isnD_bb, DL.isi_i, DL.isi_b, DL.isi_t, DL.isi_s, DL.isi_n, DL.isTy_ii, DL.isTy_bi, DL.isTy_ib, DL.isTy_bb, DL.isTy_tt, DL.isTy_it, DL.isTy_bt, DL.isTy_ti, DL.isTy_is, DL.isTy_bs, DL.isTy_ss, DL.isTy_st, DL.isTy_nt, DL.isTy_ns, DL.isTy_ni, DL.isTy_ts, DL.isTy_si, DL.isTy_tb, DL.mulD_i, DL.modD_i, DL.fdivD_i, DL.powD_i, DL.tupD_k, DL.lstD_k, DL.fnD_k, DL.endR_rt, DL.endR_nx, DL.endR_ex, List.map_cons, List.map_nil, List.replicate_succ, List.replicate_zero, List.cons_append, List.nil_append, List.getElem?_cons_zero, List.getElem?_cons_succ, List.set_cons_zero, List.set_cons_succ, Nat.reduceSub, Nat.reduceAdd, List.length_cons, List.length_nil, List.any_cons, List.any_nil, Bool.or_false, Bool.or_true, Bool.not_true, Bool.not_false, Nat.reduceLeDiff, Bool.false_or, Bool.true_or, DL.trim_eq, DL.sFor_k, DL.kFor_0, DL.cSrc_k, DL.kSrc_0, DL.cApp_k, DL.kSrcA_0, DL.srcD_t, DL.srcD_f, DL.eqD_ii, DL.neD_ii, DL.ix_t0, DL.ix_t1]

/-! ### two moments -/
def dif (f s : Int × Int) : Int := s.1 * f.2 - f.1 * s.2
section
variable {f g : Int × Int}
theorem Mo.m12 (F : Mo f) (G : Mo g) : mulOk f.1 g.2 = true := mulOk_b F.t6 G.b6 (by decide) (by decide)
theorem Mo.m22 (F : Mo f) (G : Mo g) : mulOk f.2 g.2 = true := mulOk_b F.b6 G.b6 (by decide) (by decide)
theorem Mo.b22 (F : Mo f) (G : Mo g) : 1 ≤ f.2 * g.2 ∧ (f.2 * g.2).natAbs < 2 ^ 128 := ⟨Int.mul_pos (by have := F.b; omega) (by have := G.b; omega), natAbs_mul_lt F.b6 G.b6⟩
theorem Mo.n12 (F : Mo f) (G : Mo g) : 0 ≤ f.1 * g.2 := Int.mul_nonneg F.t (by have := G.b; omega)
theorem since_ok (F : Mo f) (G : Mo g) (s : Sto) (h : 0 ≤ dif f g) : F_since [mo f, mo g] s = .ok (loD (dif f g) (f.2 * g.2)) s := by
  have n1 : ¬ dif f g < 0 := by omega
  have mm := moment_ok s h (F.b22 G).1 (lt9000 (F.b22 G).2 (by decide))
  simp only [F_since, B_since, DL.kSeq_0, DL.kSeq_1, DL.kSeq_2, DL.kSeq_3, DL.kSeq_4, DL.sSeq_k, DL.sSkip_k, DL.sBreak_k, DL.sCont_k, DL.sRetN_k, DL.kExpr_0, DL.kExpr_1, DL.sExpr_k, DL.kRet_0, DL.kRet_1, DL.sRet_k, DL.kIf_0, DL.kIf_1, DL.kIf_2, DL.sIf_k, DL.kAsg2_0, DL.kAsg_0, DL.kAsg_1, DL.sAsg_k, DL.sSet_k, DL.gN_k, DL.gsN_k, DL.kG_0, DL.gsC_k, DL.gT_k, DL.kPut4_0, DL.kPut3_0, DL.kPut3_1, DL.kPut2_0, DL.kPut2_1, DL.kPut_0, DL.kPut_1, DL.sPut_k, DL.sPar_k, DL.kVar_0, DL.eVar_k, DL.eC_k, DL.kUn_0, DL.kUn_1, DL.eUn_k, DL.eIsi_k, DL.kBin2_0, DL.kBin2_1, DL.kBin_0, DL.kBin_1, DL.eBin_k, DL.aNil_k, DL.kCons2_0, DL.kCons2_1, DL.kCons_0, DL.kCons_1, DL.aCons_k, DL.kApp_0, DL.kApp_1, DL.eApp_k, DL.kMt2_0, DL.kMt2_1, DL.kMt1_0, DL.kMt_0, DL.kMt_1, DL.eMt_k, DL.kTru_0, DL.kTru_1, DL.tTru_k, DL.kAnd_0, DL.kAnd_1, DL.kAnd_2, DL.tAndF_k, DL.kOr_0, DL.kOr_1, DL.kOr_2, DL.tOrF_k, DL.kNot_0, DL.kNot_1, DL.kNot_2, DL.tNotF_k, DL.kEIf_0, DL.kEIf_1, DL.kEIf_2, DL.eIf_k, DL.kEAnd2_0, DL.kEAnd2_1, DL.kEAnd2_2, DL.kEAnd_0, DL.kEAnd_1, DL.eAnd_k, DL.kEOr2_0, DL.kEOr2_1, DL.kEOr2_2, DL.kEOr_0, DL.kEOr_1, DL.eOr_k, DL.kENot2_0, DL.kENot2_1, DL.kENot2_2, DL.kENot_0, DL.kENot_1, DL.eNot_k, DL.kSl3_0, DL.kSl3_1, DL.kSl2_0, DL.kSl2_1, DL.kSl_0, DL.kSl_1, DL.eSl_k, DL.oNone_k, DL.kOS_0, DL.kOS_1, DL.oSome_k, DL.kKw2_0, DL.kKw2_1, DL.kKw_0, DL.kKw_1, DL.eKw_k, DL.truD_bl, DL.blD_bl, DL.addD_i, DL.subD_i, DL.ltI_i, DL.leI_i, DL.gtI_i, DL.geI_i, DL.negD_i, DL.intD_i, DL.intD_b, DL.max2D_i, DL.min2D_i, DL.gcdD_i, DL.lenD_t, DL.lenD_f, DL.isD_nn, DL.isD_in, DL.isD_tn, DL.isD_bn, DL.isD_sn, DL.isD_ib, DL.isD_tb, DL.isD_bb, DL.isD_sb, DL.isD_nb, DL.isnD_bb, DL.isi_i, DL.isi_b, DL.isi_t, DL.isi_s, DL.isi_n, DL.isTy_ii, DL.isTy_bi, DL.isTy_ib, DL.isTy_bb, DL.isTy_tt, DL.isTy_it, DL.isTy_bt, DL.isTy_ti, DL.isTy_is, DL.isTy_bs, DL.isTy_ss, DL.isTy_st, DL.isTy_nt, DL.isTy_ns, DL.isTy_ni, DL.isTy_ts, DL.isTy_si, DL.isTy_tb, DL.mulD_i, DL.modD_i, DL.fdivD_i, DL.powD_i, DL.tupD_k, DL.lstD_k, DL.fnD_k, DL.endR_rt, DL.endR_nx, DL.endR_ex, List.map_cons, List.map_nil, List.replicate_succ, List.replicate_zero, List.cons_append, List.nil_append, List.getElem?_cons_zero, List.getElem?_cons_succ, List.set_cons_zero, List.set_cons_succ, Nat.reduceSub, Nat.reduceAdd, List.length_cons, List.length_nil, List.any_cons, List.any_nil, Bool.or_false, Bool.or_true, Bool.not_true, Bool.not_false, Nat.reduceLeDiff, Bool.false_or, Bool.true_or, DL.trim_eq, DL.sFor_k, DL.kFor_0, DL.cSrc_k, DL.kSrc_0, DL.cApp_k, DL.kSrcA_0, DL.srcD_t, DL.srcD_f, DL.eqD_ii, DL.neD_ii, DL.ix_t0, DL.ix_t1]
  simp only [S_since_0, DL.kSeq_0, DL.kSeq_1, DL.kSeq_2, DL.kSeq_3, DL.kSeq_4, DL.sSeq_k, DL.sSkip_k, DL.sBreak_k, DL.sCont_k, DL.sRetN_k, DL.kExpr_0, DL.kExpr_1, DL.sExpr_k, DL.kRet_0, DL.kRet_1, DL.sRet_k, DL.kIf_0, DL.kIf_1, DL.kIf_2, DL.sIf_k, DL.kAsg2_0, DL.kAsg_0, DL.kAsg_1, DL.sAsg_k, DL.sSet_k, DL.gN_k, DL.gsN_k, DL.kG_0, DL.gsC_k, DL.gT_k, DL.kPut4_0, DL.kPut3_0, DL.kPut3_1, DL.kPut2_0, DL.kPut2_1, DL.kPut_0, DL.kPut_1, DL.sPut_k, DL.sPar_k, DL.kVar_0, DL.eVar_k, DL.eC_k, DL.kUn_0, DL.kUn_1, DL.eUn_k, DL.eIsi_k, DL.kBin2_0, DL.kBin2_1, DL.kBin_0, DL.kBin_1, DL.eBin_k, DL.aNil_k, DL.kCons2_0, DL.kCons2_1, DL.kCons_0, DL.kCons_1, DL.aCons_k, DL.kApp_0, DL.kApp_1, DL.eApp_k, DL.kMt2_0, DL.kMt2_1, DL.kMt1_0, DL.kMt_0, DL.kMt_1, DL.eMt_k, DL.kTru_0, DL.kTru_1, DL.tTru_k, DL.kAnd_0, DL.kAnd_1, DL.kAnd_2, DL.tAndF_k, DL.kOr_0, DL.kOr_1, DL.kOr_2, DL.tOrF_k, DL.kNot_0, DL.kNot_1, DL.kNot_2, DL.tNotF_k, DL.kEIf_0, DL.kEIf_1, DL.kEIf_2, DL.eIf_k, DL.kEAnd2_0, DL.kEAnd2_1, DL.kEAnd2_2, DL.kEAnd_0, DL.kEAnd_1, DL.eAnd_k, DL.kEOr2_0, DL.kEOr2_1, DL.kEOr2_2, DL.kEOr_0, DL.kEOr_1, DL.eOr_k, DL.kENot2_0, DL.kENot2_1, DL.kENot2_2, DL.kENot_0, DL.kENot_1, DL.eNot_k, DL.kSl3_0, DL.kSl3_1, DL.kSl2_0, DL.kSl2_1, DL.kSl_0, DL.kSl_1, DL.eSl_k, DL.oNone_k, DL.kOS_0, DL.kOS_1, DL.oSome_k, DL.kKw2_0, DL.kKw2_1, DL.kKw_0, DL.kKw_1, DL.eKw_k, DL.truD_bl, DL.blD_bl, DL.addD_i, DL.subD_i, DL.ltI_i, DL.leI_i, DL.gtI_i, DL.geI_i, DL.negD_i, DL.intD_i, DL.intD_b, DL.max2D_i, DL.min2D_i, DL.gcdD_i, DL.lenD_t, DL.lenD_f, DL.isD_nn, DL.isD_in, DL.isD_tn, DL.isD_bn, DL.isD_sn, DL.isD_ib, DL.isD_tb, DL.isD_bb, DL.isD_sb, DL.isD_nb, DL.isnD_bb, DL.isi_i, DL.isi_b, DL.isi_t, DL.isi_s, DL.isi_n, DL.isTy_ii, DL.isTy_bi, DL.isTy_ib, DL.isTy_bb, DL.isTy_tt, DL.isTy_it, DL.isTy_bt, DL.isTy_ti, DL.isTy_is, DL.isTy_bs, DL.isTy_ss, DL.isTy_st, DL.isTy_nt, DL.isTy_ns, DL.isTy_ni, DL.isTy_ts, DL.isTy_si, DL.isTy_tb, DL.mulD_i, DL.modD_i, DL.fdivD_i, DL.powD_i, DL.tupD_k, DL.lstD_k, DL.fnD_k, DL.endR_rt, DL.endR_nx, DL.endR_ex, List.map_cons, List.map_nil, List.replicate_succ, List.replicate_zero, List.cons_append, List.nil_append, List.getElem?_cons_zero, List.getElem?_cons_succ, List.set_cons_zero, List.set_cons_succ, Nat.reduceSub, Nat.reduceAdd, List.length_cons, List.length_nil, List.any_cons, List.any_nil, Bool.or_false, Bool.or_true, Bool.not_true, Bool.not_false, Nat.reduceLeDiff, Bool.false_or, Bool.true_or, DL.trim_eq, DL.sFor_k, DL.kFor_0, DL.cSrc_k, DL.kSrc_0, DL.cApp_k, DL.kSrcA_0, DL.srcD_t, DL.srcD_f, DL.eqD_ii, DL.neD_ii, DL.ix_t0, DL.ix_t1, mulD_i _ _ _ (F.m12 G), mulD_i _ _ _ (G.m12 F)]
  simp only [show g.1 * f.2 - f.1 * g.2 = dif f g from rfl]
  simp only [S_since_1, S_since_2, DL.kSeq_0, DL.kSeq_1, DL.kSeq_2, DL.kSeq_3, DL.kSeq_4, DL.sSeq_k, DL.sSkip_k, DL.sBreak_k, DL.sCont_k, DL.sRetN_k, DL.kExpr_0, DL.kExpr_1, DL.sExpr_k, DL.kRet_0, DL.kRet_1, DL.sRet_k, DL.kIf_0, DL.kIf_1, DL.kIf_2, DL.sIf_k, DL.kAsg2_0, DL.kAsg_0, DL.kAsg_1, DL.sAsg_k, DL.sSet_k, DL.gN_k, DL.gsN_k, DL.kG_0, DL.gsC_k, DL.gT_k, DL.kPut4_0, DL.kPut3_0, DL.kPut3_1, DL.kPut2_0, DL.kPut2_1, DL.kPut_0, DL.kPut_1, DL.sPut_k, DL.sPar_k, DL.kVar_0, DL.eVar_k, DL.eC_k, DL.kUn_0, DL.kUn_1, DL.eUn_k, DL.eIsi_k, DL.kBin2_0, DL.kBin2_1, DL.kBin_0, DL.kBin_1, DL.eBin_k, DL.aNil_k, DL.kCons2_0, DL.kCons2_1, DL.kCons_0, DL.kCons_1, DL.aCons_k, DL.kApp_0, DL.kApp_1, DL.eApp_k, DL.kMt2_0, DL.kMt2_1, DL.kMt1_0, DL.kMt_0, DL.kMt_1, DL.eMt_k, DL.kTru_0, DL.kTru_1, DL.tTru_k, DL.kAnd_0, DL.kAnd_1, DL.kAnd_2, DL.tAndF_k, DL.kOr_0, DL.kOr_1, DL.kOr_2, DL.tOrF_k, DL.kNot_0, DL.kNot_1, DL.kNot_2, DL.tNotF_k, DL.kEIf_0, DL.kEIf_1, DL.kEIf_2, DL.eIf_k, DL.kEAnd2_0, DL.kEAnd2_1, DL.kEAnd2_2, DL.kEAnd_0, DL.kEAnd_1, DL.eAnd_k, DL.kEOr2_0, DL.kEOr2_1, DL.kEOr2_2, DL.kEOr_0, DL.kEOr_1, DL.eOr_k, DL.kENot2_0, DL.kENot2_1, DL.kENot2_2, DL.kENot_0, DL.kENot_1, DL.eNot_k, DL.kSl3_0, DL.kSl3_1, DL.kSl2_0, DL.kSl2_1, DL.kSl_0, DL.kSl_1, DL.eSl_k, DL.oNone_k, DL.kOS_0, DL.kOS_1, DL.oSome_k, DL.kKw2_0, DL.kKw2_1, DL.kKw_0, DL.kKw_1, DL.eKw_k, DL.truD_bl, DL.blD_bl, DL.addD_i, DL.subD_i, DL.ltI_i, DL.leI_i, DL.gtI_i, DL.geI_i, DL.negD_i, DL.intD_i, DL.intD_b, DL.max2D_i, DL.min2D_i, DL.gcdD_i, DL.lenD_t, DL.lenD_f, DL.isD_nn, DL.isD_in, DL.isD_tn, DL.isD_bn, DL.isD_sn, DL.isD_ib, DL.isD_tb, DL.isD_bb, DL.isD_sb, DL.isD_nb, DL.isnD_bb, DL.isi_i, DL.isi_b, DL.isi_t, DL.isi_s, DL.isi_n, DL.isTy_ii, DL.isTy_bi, DL.isTy_ib, DL.isTy_bb, DL.isTy_tt, DL.isTy_it, DL.isTy_bt, DL.isTy_ti, DL.isTy_is, DL.isTy_bs, DL.isTy_ss, DL.isTy_st, DL.isTy_nt, DL.isTy_ns, DL.isTy_ni, DL.isTy_ts, DL.isTy_si, DL.isTy_tb, DL.mulD_i, DL.modD_i, DL.fdivD_i, DL.powD_i, DL.tupD_k, DL.lstD_k, DL.fnD_k, DL.endR_rt, DL.endR_nx, DL.endR_ex, List.map_cons, List.map_nil, List.replicate_succ, List.replicate_zero, List.cons_append, List.nil_append, List.getElem?_cons_zero, List.getElem?_cons_succ, List.set_cons_zero, List.set_cons_succ, Nat.reduceSub, Nat.reduceAdd, List.length_cons, List.length_nil, List.any_cons, List.any_nil, Bool.or_false, Bool.or_true, Bool.not_true, Bool.not_false, Nat.reduceLeDiff, Bool.false_or, Bool.true_or, DL.trim_eq, DL.sFor_k, DL.kFor_0, DL.cSrc_k, DL.kSrc_0, DL.cApp_k, DL.kSrcA_0, DL.srcD_t, DL.srcD_f, DL.eqD_ii, DL.neD_ii, DL.ix_t0, DL.ix_t1, n1, decide_false, mulD_i _ _ _ (F.m22 G), G_moment_2, mm]
theorem since_bad (F : Mo f) (G : Mo g) (s : Sto) (h : dif f g < 0) : F_since [mo f, mo g] s = .ex ⟨"Backwards", [("first", mo f), ("second", mo g)]⟩ s := by
  have r : sRaise "Backwards" ["first", "second"] (aCons (eVar 0) (aCons (eVar 1) aNil)) [.d (mo f), .d (mo g), .d (.int (dif f g))] s = .ex ⟨"Backwards", [("first", mo f), ("second", mo g)]⟩ [.d (mo f), .d (mo g), .d (.int (dif f g))] s := by
    unfold sRaise
    simp only [DL.kSeq_0, DL.kSeq_1, DL.kSeq_2, DL.kSeq_3, DL.kSeq_4, DL.sSeq_k, DL.sSkip_k, DL.sBreak_k, DL.sCont_k, DL.sRetN_k, DL.kExpr_0, DL.kExpr_1, DL.sExpr_k, DL.kRet_0, DL.kRet_1, DL.sRet_k, DL.kIf_0, DL.kIf_1, DL.kIf_2, DL.sIf_k, DL.kAsg2_0, DL.kAsg_0, DL.kAsg_1, DL.sAsg_k, DL.sSet_k, DL.gN_k, DL.gsN_k, DL.kG_0, DL.gsC_k, DL.gT_k, DL.kPut4_0, DL.kPut3_0, DL.kPut3_1, DL.kPut2_0, DL.kPut2_1, DL.kPut_0, DL.kPut_1, DL.sPut_k, DL.sPar_k, DL.kVar_0, DL.eVar_k, DL.eC_k, DL.kUn_0, DL.kUn_1, DL.eUn_k, DL.eIsi_k, DL.kBin2_0, DL.kBin2_1, DL.kBin_0, DL.kBin_1, DL.eBin_k, DL.aNil_k, DL.kCons2_0, DL.kCons2_1, DL.kCons_0, DL.kCons_1, DL.aCons_k, DL.kApp_0, DL.kApp_1, DL.eApp_k, DL.kMt2_0, DL.kMt2_1, DL.kMt1_0, DL.kMt_0, DL.kMt_1, DL.eMt_k, DL.kTru_0, DL.kTru_1, DL.tTru_k, DL.kAnd_0, DL.kAnd_1, DL.kAnd_2, DL.tAndF_k, DL.kOr_0, DL.kOr_1, DL.kOr_2, DL.tOrF_k, DL.kNot_0, DL.kNot_1, DL.kNot_2, DL.tNotF_k, DL.kEIf_0, DL.kEIf_1, DL.kEIf_2, DL.eIf_k, DL.kEAnd2_0, DL.kEAnd2_1, DL.kEAnd2_2, DL.kEAnd_0, DL.kEAnd_1, DL.eAnd_k, DL.kEOr2_0, DL.kEOr2_1, DL.kEOr2_2, DL.kEOr_0, DL.kEOr_1, DL.eOr_k, DL.kENot2_0, DL.kENot2_1, DL.kENot2_2, DL.kENot_0, DL.kENot_1, DL.eNot_k, DL.kSl3_0, DL.kSl3_1, DL.kSl2_0, DL.kSl2_1, DL.kSl_0, DL.kSl_1, DL.eSl_k, DL.oNone_k, DL.kOS_0, DL.kOS_1, DL.oSome_k, DL.kKw2_0, DL.kKw2_1, DL.kKw_0, DL.kKw_1, DL.eKw_k, DL.truD_bl, DL.blD_bl, DL.addD_i, DL.subD_i, DL.ltI_i, DL.leI_i, DL.gtI_i, DL.geI_i, DL.negD_i, DL.intD_i, DL.intD_b, DL.max2D_i, DL.min2D_i, DL.gcdD_i, DL.lenD_t, DL.lenD_f, DL.isD_nn, DL.isD_in, DL.isD_tn, DL.isD_bn, DL.isD_sn, DL.isD_ib, DL.isD_tb, DL.isD_bb, DL.isD_sb, DL.isD_nb, DL.isnD_bb, DL.isi_i, DL.isi_b, DL.isi_t, DL.isi_s, DL.isi_n, DL.isTy_ii, DL.isTy_bi, DL.isTy_ib, DL.isTy_bb, DL.isTy_tt, DL.isTy_it, DL.isTy_bt, DL.isTy_ti, DL.isTy_is, DL.isTy_bs, DL.isTy_ss, DL.isTy_st, DL.isTy_nt, DL.isTy_ns, DL.isTy_ni, DL.isTy_ts, DL.isTy_si, DL.isTy_tb, DL.mulD_i, DL.modD_i, DL.fdivD_i, DL.powD_i, DL.tupD_k, DL.lstD_k, DL.fnD_k, DL.endR_rt, DL.endR_nx, DL.endR_ex, List.map_cons, List.map_nil, List.replicate_succ, List.replicate_zero, List.cons_append, List.nil_append, List.getElem?_cons_zero, List.getElem?_cons_succ, List.set_cons_zero, List.set_cons_succ, Nat.reduceSub, Nat.reduceAdd, List.length_cons, List.length_nil, List.any_cons, List.any_nil, Bool.or_false, Bool.or_true, Bool.not_true, Bool.not_false, Nat.reduceLeDiff, Bool.false_or, Bool.true_or, DL.trim_eq, DL.sFor_k, DL.kFor_0, DL.cSrc_k, DL.kSrc_0, DL.cApp_k, DL.kSrcA_0, DL.srcD_t, DL.srcD_f, DL.eqD_ii, DL.neD_ii, DL.ix_t0, DL.ix_t1]
    rfl
  simp only [F_since, B_since, DL.kSeq_0, DL.kSeq_1, DL.kSeq_2, DL.kSeq_3, DL.kSeq_4, DL.sSeq_k, DL.sSkip_k, DL.sBreak_k, DL.sCont_k, DL.sRetN_k, DL.kExpr_0, DL.kExpr_1, DL.sExpr_k, DL.kRet_0, DL.kRet_1, DL.sRet_k, DL.kIf_0, DL.kIf_1, DL.kIf_2, DL.sIf_k, DL.kAsg2_0, DL.kAsg_0, DL.kAsg_1, DL.sAsg_k, DL.sSet_k, DL.gN_k, DL.gsN_k, DL.kG_0, DL.gsC_k, DL.gT_k, DL.kPut4_0, DL.kPut3_0, DL.kPut3_1, DL.kPut2_0, DL.kPut2_1, DL.kPut_0, DL.kPut_1, DL.sPut_k, DL.sPar_k, DL.kVar_0, DL.eVar_k, DL.eC_k, DL.kUn_0, DL.kUn_1, DL.eUn_k, DL.eIsi_k, DL.kBin2_0, DL.kBin2_1, DL.kBin_0, DL.kBin_1, DL.eBin_k, DL.aNil_k, DL.kCons2_0, DL.kCons2_1, DL.kCons_0, DL.kCons_1, DL.aCons_k, DL.kApp_0, DL.kApp_1, DL.eApp_k, DL.kMt2_0, DL.kMt2_1, DL.kMt1_0, DL.kMt_0, DL.kMt_1, DL.eMt_k, DL.kTru_0, DL.kTru_1, DL.tTru_k, DL.kAnd_0, DL.kAnd_1, DL.kAnd_2, DL.tAndF_k, DL.kOr_0, DL.kOr_1, DL.kOr_2, DL.tOrF_k, DL.kNot_0, DL.kNot_1, DL.kNot_2, DL.tNotF_k, DL.kEIf_0, DL.kEIf_1, DL.kEIf_2, DL.eIf_k, DL.kEAnd2_0, DL.kEAnd2_1, DL.kEAnd2_2, DL.kEAnd_0, DL.kEAnd_1, DL.eAnd_k, DL.kEOr2_0, DL.kEOr2_1, DL.kEOr2_2, DL.kEOr_0, DL.kEOr_1, DL.eOr_k, DL.kENot2_0, DL.kENot2_1, DL.kENot2_2, DL.kENot_0, DL.kENot_1, DL.eNot_k, DL.kSl3_0, DL.kSl3_1, DL.kSl2_0, DL.kSl2_1, DL.kSl_0, DL.kSl_1, DL.eSl_k, DL.oNone_k, DL.kOS_0, DL.kOS_1, DL.oSome_k, DL.kKw2_0, DL.kKw2_1, DL.kKw_0, DL.kKw_1, DL.eKw_k, DL.truD_bl, DL.blD_bl, DL.addD_i, DL.subD_i, DL.ltI_i, DL.leI_i, DL.gtI_i, DL.geI_i, DL.negD_i, DL.intD_i, DL.intD_b, DL.max2D_i, DL.min2D_i, DL.gcdD_i, DL.lenD_t, DL.lenD_f, DL.isD_nn, DL.isD_in, DL.isD_tn, DL.isD_bn, DL.isD_sn, DL.isD_ib, DL.isD_tb, DL.isD_bb, DL.isD_sb, DL.isD_nb, DL.isnD_bb, DL.isi_i, DL.isi_b, DL.isi_t, DL.isi_s, DL.isi_n, DL.isTy_ii, DL.isTy_bi, DL.isTy_ib, DL.isTy_bb, DL.isTy_tt, DL.isTy_it, DL.isTy_bt, DL.isTy_ti, DL.isTy_is, DL.isTy_bs, DL.isTy_ss, DL.isTy_st, DL.isTy_nt, DL.isTy_ns, DL.isTy_ni, DL.isTy_ts, DL.isTy_si, DL.isTy_tb, DL.mulD_i, DL.modD_i, DL.fdivD_i, DL.powD_i, DL.tupD_k, DL.lstD_k, DL.fnD_k, DL.endR_rt, DL.endR_nx, DL.endR_ex, List.map_cons, List.map_nil, List.replicate_succ, List.replicate_zero, List.cons_append, List.nil_append, List.getElem?_cons_zero, List.getElem?_cons_succ, List.set_cons_zero, List.set_cons_succ, Nat.reduceSub, Nat.reduceAdd, List.length_cons, List.length_nil, List.any_cons, List.any_nil, Bool.or_false, Bool.or_true, Bool.not_true, Bool.not_false, Nat.reduceLeDiff, Bool.false_or, Bool.true_or, DL.trim_eq, DL.sFor_k, DL.kFor_0, DL.cSrc_k, DL.kSrc_0, DL.cApp_k, DL.kSrcA_0, DL.srcD_t, DL.srcD_f, DL.eqD_ii, DL.neD_ii, DL.ix_t0, DL.ix_t1]
  simp only [S_since_0, DL.kSeq_0, DL.kSeq_1, DL.kSeq_2, DL.kSeq_3, DL.kSeq_4, DL.sSeq_k, DL.sSkip_k, DL.sBreak_k, DL.sCont_k, DL.sRetN_k, DL.kExpr_0, DL.kExpr_1, DL.sExpr_k, DL.kRet_0, DL.kRet_1, DL.sRet_k, DL.kIf_0, DL.kIf_1, DL.kIf_2, DL.sIf_k, DL.kAsg2_0, DL.kAsg_0, DL.kAsg_1, DL.sAsg_k, DL.sSet_k, DL.gN_k, DL.gsN_k, DL.kG_0, DL.gsC_k, DL.gT_k, DL.kPut4_0, DL.kPut3_0, DL.kPut3_1, DL.kPut2_0, DL.kPut2_1, DL.kPut_0, DL.kPut_1, DL.sPut_k, DL.sPar_k, DL.kVar_0, DL.eVar_k, DL.eC_k, DL.kUn_0, DL.kUn_1, DL.eUn_k, DL.eIsi_k, DL.kBin2_0, DL.kBin2_1, DL.kBin_0, DL.kBin_1, DL.eBin_k, DL.aNil_k, DL.kCons2_0, DL.kCons2_1, DL.kCons_0, DL.kCons_1, DL.aCons_k, DL.kApp_0, DL.kApp_1, DL.eApp_k, DL.kMt2_0, DL.kMt2_1, DL.kMt1_0, DL.kMt_0, DL.kMt_1, DL.eMt_k, DL.kTru_0, DL.kTru_1, DL.tTru_k, DL.kAnd_0, DL.kAnd_1, DL.kAnd_2, DL.tAndF_k, DL.kOr_0, DL.kOr_1, DL.kOr_2, DL.tOrF_k, DL.kNot_0, DL.kNot_1, DL.kNot_2, DL.tNotF_k, DL.kEIf_0, DL.kEIf_1, DL.kEIf_2, DL.eIf_k, DL.kEAnd2_0, DL.kEAnd2_1, DL.kEAnd2_2, DL.kEAnd_0, DL.kEAnd_1, DL.eAnd_k, DL.kEOr2_0, DL.kEOr2_1, DL.kEOr2_2, DL.kEOr_0, DL.kEOr_1, DL.eOr_k, DL.kENot2_0, DL.kENot2_1, DL.kENot2_2, DL.kENot_0, DL.kENot_1, DL.eNot_k, DL.kSl3_0, DL.kSl3_1, DL.kSl2_0, DL.kSl2_1, DL.kSl_0, DL.kSl_1, DL.eSl_k, DL.oNone_k, DL.kOS_0, DL.kOS_1, DL.oSome_k, DL.kKw2_0, DL.kKw2_1, DL.kKw_0, DL.kKw_1, DL.eKw_k, DL.truD_bl, DL.blD_bl, DL.addD_i, DL.subD_i, DL.ltI_i, DL.leI_i, DL.gtI_i, DL.geI_i, DL.negD_i, DL.intD_i, DL.intD_b, DL.max2D_i, DL.min2D_i, DL.gcdD_i, DL.lenD_t, DL.lenD_f, DL.isD_nn, DL.isD_in, DL.isD_tn, DL.isD_bn, DL.isD_sn, DL.isD_ib, DL.isD_tb, DL.isD_bb, DL.isD_sb, DL.isD_nb, DL.isnD_bb, DL.isi_i, DL.isi_b, DL.isi_t, DL.isi_s, DL.isi_n, DL.isTy_ii, DL.isTy_bi, DL.isTy_ib, DL.isTy_bb, DL.isTy_tt, DL.isTy_it, DL.isTy_bt, DL.isTy_ti, DL.isTy_is, DL.isTy_bs, DL.isTy_ss, DL.isTy_st, DL.isTy_nt, DL.isTy_ns, DL.isTy_ni, DL.isTy_ts, DL.isTy_si, DL.isTy_tb, DL.mulD_i, DL.modD_i, DL.fdivD_i, DL.powD_i, DL.tupD_k, DL.lstD_k, DL.fnD_k, DL.endR_rt, DL.endR_nx, DL.endR_ex, List.map_cons, List.map_nil, List.replicate_succ, List.replicate_zero, List.cons_append, List.nil_append, List.getElem?_cons_zero, List.getElem?_cons_succ, List.set_cons_zero, List.set_cons_succ, Nat.reduceSub, Nat.reduceAdd, List.length_cons, List.length_nil, List.any_cons, List.any_nil, Bool.or_false, Bool.or_true, Bool.not_true, Bool.not_false, Nat.reduceLeDiff, Bool.false_or, Bool.true_or, DL.trim_eq, DL.sFor_k, DL.kFor_0, DL.cSrc_k, DL.kSrc_0, DL.cApp_k, DL.kSrcA_0, DL.srcD_t, DL.srcD_f, DL.eqD_ii, DL.neD_ii, DL.ix_t0, DL.ix_t1, mulD_i _ _ _ (F.m12 G), mulD_i _ _ _ (G.m12 F)]
  simp only [show g.1 * f.2 - f.1 * g.2 = dif f g from rfl]
  simp only [S_since_1, DL.kSeq_0, DL.kSeq_1, DL.kSeq_2, DL.kSeq_3, DL.kSeq_4, DL.sSeq_k, DL.sSkip_k, DL.sBreak_k, DL.sCont_k, DL.sRetN_k, DL.kExpr_0, DL.kExpr_1, DL.sExpr_k, DL.kRet_0, DL.kRet_1, DL.sRet_k, DL.kIf_0, DL.kIf_1, DL.kIf_2, DL.sIf_k, DL.kAsg2_0, DL.kAsg_0, DL.kAsg_1, DL.sAsg_k, DL.sSet_k, DL.gN_k, DL.gsN_k, DL.kG_0, DL.gsC_k, DL.gT_k, DL.kPut4_0, DL.kPut3_0, DL.kPut3_1, DL.kPut2_0, DL.kPut2_1, DL.kPut_0, DL.kPut_1, DL.sPut_k, DL.sPar_k, DL.kVar_0, DL.eVar_k, DL.eC_k, DL.kUn_0, DL.kUn_1, DL.eUn_k, DL.eIsi_k, DL.kBin2_0, DL.kBin2_1, DL.kBin_0, DL.kBin_1, DL.eBin_k, DL.aNil_k, DL.kCons2_0, DL.kCons2_1, DL.kCons_0, DL.kCons_1, DL.aCons_k, DL.kApp_0, DL.kApp_1, DL.eApp_k, DL.kMt2_0, DL.kMt2_1, DL.kMt1_0, DL.kMt_0, DL.kMt_1, DL.eMt_k, DL.kTru_0, DL.kTru_1, DL.tTru_k, DL.kAnd_0, DL.kAnd_1, DL.kAnd_2, DL.tAndF_k, DL.kOr_0, DL.kOr_1, DL.kOr_2, DL.tOrF_k, DL.kNot_0, DL.kNot_1, DL.kNot_2, DL.tNotF_k, DL.kEIf_0, DL.kEIf_1, DL.kEIf_2, DL.eIf_k, DL.kEAnd2_0, DL.kEAnd2_1, DL.kEAnd2_2, DL.kEAnd_0, DL.kEAnd_1, DL.eAnd_k, DL.kEOr2_0, DL.kEOr2_1, DL.kEOr2_2, DL.kEOr_0, DL.kEOr_1, DL.eOr_k, DL.kENot2_0, DL.kENot2_1, DL.kENot2_2, DL.kENot_0, DL.kENot_1, DL.eNot_k, DL.kSl3_0, DL.kSl3_1, DL.kSl2_0, DL.kSl2_1, DL.kSl_0, DL.kSl_1, DL.eSl_k, DL.oNone_k, DL.kOS_0, DL.kOS_1, DL.oSome_k, DL.kKw2_0, DL.kKw2_1, DL.kKw_0, DL.kKw_1, DL.eKw_k, DL.truD_bl, DL.blD_bl, DL.addD_i, DL.subD_i, DL.ltI_i, DL.leI_i, DL.gtI_i, DL.geI_i, DL.negD_i, DL.intD_i, DL.intD_b, DL.max2D_i, DL.min2D_i, DL.gcdD_i, DL.lenD_t, DL.lenD_f, DL.isD_nn, DL.isD_in, DL.isD_tn, DL.isD_bn, DL.isD_sn, DL.isD_ib, DL.isD_tb, DL.isD_bb, DL.isD_sb, DL.isD_nb, DL.isnD_bb, DL.isi_i, DL.isi_b, DL.isi_t, DL.isi_s, DL.isi_n, DL.isTy_ii, DL.isTy_bi, DL.isTy_ib, DL.isTy_bb, DL.isTy_tt, DL.isTy_it, DL.isTy_bt, DL.isTy_ti, DL.isTy_is, DL.isTy_bs, DL.isTy_ss, DL.isTy_st, DL.isTy_nt, DL.isTy_ns, DL.isTy_ni, DL.isTy_ts, DL.isTy_si, DL.isTy_tb, DL.mulD_i, DL.modD_i, DL.fdivD_i, DL.powD_i, DL.tupD_k, DL.lstD_k, DL.fnD_k, DL.endR_rt, DL.endR_nx, DL.endR_ex, List.map_cons, List.map_nil, List.replicate_succ, List.replicate_zero, List.cons_append, List.nil_append, List.getElem?_cons_zero, List.getElem?_cons_succ, List.set_cons_zero, List.set_cons_succ, Nat.reduceSub, Nat.reduceAdd, List.length_cons, List.length_nil, List.any_cons, List.any_nil, Bool.or_false, Bool.or_true, Bool.not_true, Bool.not_false, Nat.reduceLeDiff, Bool.false_or, Bool.true_or, DL.trim_eq, DL.sFor_k, DL.kFor_0, DL.cSrc_k, DL.kSrc_0, DL.cApp_k, DL.kSrcA_0, DL.srcD_t, DL.srcD_f, DL.eqD_ii, DL.neD_ii, DL.ix_t0, DL.ix_t1, h, decide_true, r, trim_ex]
theorem compared_ok (F : Mo f) (G : Mo g) (s : Sto) : F_compared [mo f, mo g] s = .ok (.int (if dif g f < 0 then -1 else if 0 < dif g f then 1 else 0)) s := by
  simp only [F_compared, B_compared, DL.kSeq_0, DL.kSeq_1, DL.kSeq_2, DL.kSeq_3, DL.kSeq_4, DL.sSeq_k, DL.sSkip_k, DL.sBreak_k, DL.sCont_k, DL.sRetN_k, DL.kExpr_0, DL.kExpr_1, DL.sExpr_k, DL.kRet_0, DL.kRet_1, DL.sRet_k, DL.kIf_0, DL.kIf_1, DL.kIf_2, DL.sIf_k, DL.kAsg2_0, DL.kAsg_0, DL.kAsg_1, DL.sAsg_k, DL.sSet_k, DL.gN_k, DL.gsN_k, DL.kG_0, DL.gsC_k, DL.gT_k, DL.kPut4_0, DL.kPut3_0, DL.kPut3_1, DL.kPut2_0, DL.kPut2_1, DL.kPut_0, DL.kPut_1, DL.sPut_k, DL.sPar_k, DL.kVar_0, DL.eVar_k, DL.eC_k, DL.kUn_0, DL.kUn_1, DL.eUn_k, DL.eIsi_k, DL.kBin2_0, DL.kBin2_1, DL.kBin_0, DL.kBin_1, DL.eBin_k, DL.aNil_k, DL.kCons2_0, DL.kCons2_1, DL.kCons_0, DL.kCons_1, DL.aCons_k, DL.kApp_0, DL.kApp_1, DL.eApp_k, DL.kMt2_0, DL.kMt2_1, DL.kMt1_0, DL.kMt_0, DL.kMt_1, DL.eMt_k, DL.kTru_0, DL.kTru_1, DL.tTru_k, DL.kAnd_0, DL.kAnd_1, DL.kAnd_2, DL.tAndF_k, DL.kOr_0, DL.kOr_1, DL.kOr_2, DL.tOrF_k, DL.kNot_0, DL.kNot_1, DL.kNot_2, DL.tNotF_k, DL.kEIf_0, DL.kEIf_1, DL.kEIf_2, DL.eIf_k, DL.kEAnd2_0, DL.kEAnd2_1, DL.kEAnd2_2, DL.kEAnd_0, DL.kEAnd_1, DL.eAnd_k, DL.kEOr2_0, DL.kEOr2_1, DL.kEOr2_2, DL.kEOr_0, DL.kEOr_1, DL.eOr_k, DL.kENot2_0, DL.kENot2_1, DL.kENot2_2, DL.kENot_0, DL.kENot_1, DL.eNot_k, DL.kSl3_0, DL.kSl3_1, DL.kSl2_0, DL.kSl2_1, DL.kSl_0, DL.kSl_1, DL.eSl_k, DL.oNone_k, DL.kOS_0, DL.kOS_1, DL.oSome_k, DL.kKw2_0, DL.kKw2_1, DL.kKw_0, DL.kKw_1, DL.eKw_k, DL.truD_bl, DL.blD_bl, DL.addD_i, DL.subD_i, DL.ltI_i, DL.leI_i, DL.gtI_i, DL.geI_i, DL.negD_i, DL.intD_i, DL.intD_b, DL.max2D_i, DL.min2D_i, DL.gcdD_i, DL.lenD_t, DL.lenD_f, DL.isD_nn, DL.isD_in, DL.isD_tn, DL.isD_bn, DL.isD_sn, DL.isD_ib, DL.isD_tb, DL.isD_bb, DL.isD_sb, DL.isD_nb, DL.isnD_bb, DL.isi_i, DL.isi_b, DL.isi_t, DL.isi_s, DL.isi_n, DL.isTy_ii, DL.isTy_bi, DL.isTy_ib, DL.isTy_bb, DL.isTy_tt, DL.isTy_it, DL.isTy_bt, DL.isTy_ti, DL.isTy_is, DL.isTy_bs, DL.isTy_ss, DL.isTy_st, DL.isTy_nt, DL.isTy_ns, DL.isTy_ni, DL.isTy_ts, DL.isTy_si, DL.isTy_tb, DL.mulD_i, DL.modD_i, DL.fdivD_i, DL.powD_i, DL.tupD_k, DL.lstD_k, DL.fnD_k, DL.endR_rt, DL.endR_nx, DL.endR_ex, List.map_cons, List.map_nil, List.replicate_succ, List.replicate_zero, List.cons_append, List.nil_append, List.getElem?_cons_zero, List.getElem?_cons_succ, List.set_cons_zero, List.set_cons_succ, Nat.reduceSub, Nat.reduceAdd, List.length_cons, List.length_nil, List.any_cons, List.any_nil, Bool.or_false, Bool.or_true, Bool.not_true, Bool.not_false, Nat.reduceLeDiff, Bool.false_or, Bool.true_or, DL.trim_eq, DL.sFor_k, DL.kFor_0, DL.cSrc_k, DL.kSrc_0, DL.cApp_k, DL.kSrcA_0, DL.srcD_t, DL.srcD_f, DL.eqD_ii, DL.neD_ii, DL.ix_t0, DL.ix_t1]
  simp only [S_compared_0, DL.kSeq_0, DL.kSeq_1, DL.kSeq_2, DL.kSeq_3, DL.kSeq_4, DL.sSeq_k, DL.sSkip_k, DL.sBreak_k, DL.sCont_k, DL.sRetN_k, DL.kExpr_0, DL.kExpr_1, DL.sExpr_k, DL.kRet_0, DL.kRet_1, DL.sRet_k, DL.kIf_0, DL.kIf_1, DL.kIf_2, DL.sIf_k, DL.kAsg2_0, DL.kAsg_0, DL.kAsg_1, DL.sAsg_k, DL.sSet_k, DL.gN_k, DL.gsN_k, DL.kG_0, DL.gsC_k, DL.gT_k, DL.kPut4_0, DL.kPut3_0, DL.kPut3_1, DL.kPut2_0, DL.kPut2_1, DL.kPut_0, DL.kPut_1, DL.sPut_k, DL.sPar_k, DL.kVar_0, DL.eVar_k, DL.eC_k, DL.kUn_0, DL.kUn_1, DL.eUn_k, DL.eIsi_k, DL.kBin2_0, DL.kBin2_1, DL.kBin_0, DL.kBin_1, DL.eBin_k, DL.aNil_k, DL.kCons2_0, DL.kCons2_1, DL.kCons_0, DL.kCons_1, DL.aCons_k, DL.kApp_0, DL.kApp_1, DL.eApp_k, DL.kMt2_0, DL.kMt2_1, DL.kMt1_0, DL.kMt_0, DL.kMt_1, DL.eMt_k, DL.kTru_0, DL.kTru_1, DL.tTru_k, DL.kAnd_0, DL.kAnd_1, DL.kAnd_2, DL.tAndF_k, DL.kOr_0, DL.kOr_1, DL.kOr_2, DL.tOrF_k, DL.kNot_0, DL.kNot_1, DL.kNot_2, DL.tNotF_k, DL.kEIf_0, DL.kEIf_1, DL.kEIf_2, DL.eIf_k, DL.kEAnd2_0, DL.kEAnd2_1, DL.kEAnd2_2, DL.kEAnd_0, DL.kEAnd_1, DL.eAnd_k, DL.kEOr2_0, DL.kEOr2_1, DL.kEOr2_2, DL.kEOr_0, DL.kEOr_1, DL.eOr_k, DL.kENot2_0, DL.kENot2_1, DL.kENot2_2, DL.kENot_0, DL.kENot_1, DL.eNot_k, DL.kSl3_0, DL.kSl3_1, DL.kSl2_0, DL.kSl2_1, DL.kSl_0, DL.kSl_1, DL.eSl_k, DL.oNone_k, DL.kOS_0, DL.kOS_1, DL.oSome_k, DL.kKw2_0, DL.kKw2_1, DL.kKw_0, DL.kKw_1, DL.eKw_k, DL.truD_bl, DL.blD_bl, DL.addD_i, DL.subD_i, DL.ltI_i, DL.leI_i, DL.gtI_i, DL.geI_i, DL.negD_i, DL.intD_i, DL.intD_b, DL.max2D_i, DL.min2D_i, DL.gcdD_i, DL.lenD_t, DL.lenD_f, DL.isD_nn, DL.isD_in, DL.isD_tn, DL.isD_bn, DL.isD_sn, DL.isD_ib, DL.isD_tb, DL.isD_bb, DL.isD_sb, DL.isD_nb, DL.isnD_bb, DL.isi_i, DL.isi_b, DL.isi_t, DL.isi_s, DL.isi_n, DL.isTy_ii, DL.isTy_bi, DL.isTy_ib, DL.isTy_bb, DL.isTy_tt, DL.isTy_it, DL.isTy_bt, DL.isTy_ti, DL.isTy_is, DL.isTy_bs, DL.isTy_ss, DL.isTy_st, DL.isTy_nt, DL.isTy_ns, DL.isTy_ni, DL.isTy_ts, DL.isTy_si, DL.isTy_tb, DL.mulD_i, DL.modD_i, DL.fdivD_i, DL.powD_i, DL.tupD_k, DL.lstD_k, DL.fnD_k, DL.endR_rt, DL.endR_nx, DL.endR_ex, List.map_cons, List.map_nil, List.replicate_succ, List.replicate_zero, List.cons_append, List.nil_append, List.getElem?_cons_zero, List.getElem?_cons_succ, List.set_cons_zero, List.set_cons_succ, Nat.reduceSub, Nat.reduceAdd, List.length_cons, List.length_nil, List.any_cons, List.any_nil, Bool.or_false, Bool.or_true, Bool.not_true, Bool.not_false, Nat.reduceLeDiff, Bool.false_or, Bool.true_or, DL.trim_eq, DL.sFor_k, DL.kFor_0, DL.cSrc_k, DL.kSrc_0, DL.cApp_k, DL.kSrcA_0, DL.srcD_t, DL.srcD_f, DL.eqD_ii, DL.neD_ii, DL.ix_t0, DL.ix_t1, mulD_i _ _ _ (F.m12 G), mulD_i _ _ _ (G.m12 F)]
  simp only [show f.1 * g.2 - g.1 * f.2 = dif g f from rfl]
  by_cases h : dif g f < 0
  · simp only [S_compared_1, DL.kSeq_0, DL.kSeq_1, DL.kSeq_2, DL.kSeq_3, DL.kSeq_4, DL.sSeq_k, DL.sSkip_k, DL.sBreak_k, DL.sCont_k, DL.sRetN_k, DL.kExpr_0, DL.kExpr_1, DL.sExpr_k, DL.kRet_0, DL.kRet_1, DL.sRet_k, DL.kIf_0, DL.kIf_1, DL.kIf_2, DL.sIf_k, DL.kAsg2_0, DL.kAsg_0, DL.kAsg_1, DL.sAsg_k, DL.sSet_k, DL.gN_k, DL.gsN_k, DL.kG_0, DL.gsC_k, DL.gT_k, DL.kPut4_0, DL.kPut3_0, DL.kPut3_1, DL.kPut2_0, DL.kPut2_1, DL.kPut_0, DL.kPut_1, DL.sPut_k, DL.sPar_k, DL.kVar_0, DL.eVar_k, DL.eC_k, DL.kUn_0, DL.kUn_1, DL.eUn_k, DL.eIsi_k, DL.kBin2_0, DL.kBin2_1, DL.kBin_0, DL.kBin_1, DL.eBin_k, DL.aNil_k, DL.kCons2_0, DL.kCons2_1, DL.kCons_0, DL.kCons_1, DL.aCons_k, DL.kApp_0, DL.kApp_1, DL.eApp_k, DL.kMt2_0, DL.kMt2_1, DL.kMt1_0, DL.kMt_0, DL.kMt_1, DL.eMt_k, DL.kTru_0, DL.kTru_1, DL.tTru_k, DL.kAnd_0, DL.kAnd_1, DL.kAnd_2, DL.tAndF_k, DL.kOr_0, DL.kOr_1, DL.kOr_2, DL.tOrF_k, DL.kNot_0, DL.kNot_1, DL.kNot_2, DL.tNotF_k, DL.kEIf_0, DL.kEIf_1, DL.kEIf_2, DL.eIf_k, DL.kEAnd2_0, DL.kEAnd2_1, DL.kEAnd2_2, DL.kEAnd_0, DL.kEAnd_1, DL.eAnd_k, DL.kEOr2_0, DL.kEOr2_1, DL.kEOr2_2, DL.kEOr_0, DL.kEOr_1, DL.eOr_k, DL.kENot2_0, DL.kENot2_1, DL.kENot2_2, DL.kENot_0, DL.kENot_1, DL.eNot_k, DL.kSl3_0, DL.kSl3_1, DL.kSl2_0, DL.kSl2_1, DL.kSl_0, DL.kSl_1, DL.eSl_k, DL.oNone_k, DL.kOS_0, DL.kOS_1, DL.oSome_k, DL.kKw2_0, DL.kKw2_1, DL.kKw_0, DL.kKw_1, DL.eKw_k, DL.truD_bl, DL.blD_bl, DL.addD_i, DL.subD_i, DL.ltI_i, DL.leI_i, DL.gtI_i, DL.geI_i, DL.negD_i, DL.intD_i, DL.intD_b, DL.max2D_i, DL.min2D_i, DL.gcdD_i, DL.lenD_t, DL.lenD_f, DL.isD_nn, DL.isD_in, DL.isD_tn, DL.isD_bn, DL.isD_sn, DL.isD_ib, DL.isD_tb, DL.isD_bb, DL.isD_sb, DL.isD_nb, DL.isnD_bb, DL.isi_i, DL.isi_b, DL.isi_t, DL.isi_s, DL.isi_n, DL.isTy_ii, DL.isTy_bi, DL.isTy_ib, DL.isTy_bb, DL.isTy_tt, DL.isTy_it, DL.isTy_bt, DL.isTy_ti, DL.isTy_is, DL.isTy_bs, DL.isTy_ss, DL.isTy_st, DL.isTy_nt, DL.isTy_ns, DL.isTy_ni, DL.isTy_ts, DL.isTy_si, DL.isTy_tb, DL.mulD_i, DL.modD_i, DL.fdivD_i, DL.powD_i, DL.tupD_k, DL.lstD_k, DL.fnD_k, DL.endR_rt, DL.endR_nx, DL.endR_ex, List.map_cons, List.map_nil, List.replicate_succ, List.replicate_zero, List.cons_append, List.nil_append, List.getElem?_cons_zero, List.getElem?_cons_succ, List.set_cons_zero, List.set_cons_succ, Nat.reduceSub, Nat.reduceAdd, List.length_cons, List.length_nil, List.any_cons, List.any_nil, Bool.or_false, Bool.or_true, Bool.not_true, Bool.not_false, Nat.reduceLeDiff, Bool.false_or, Bool.true_or, DL.trim_eq, DL.sFor_k, DL.kFor_0, DL.cSrc_k, DL.kSrc_0, DL.cApp_k, DL.kSrcA_0, DL.srcD_t, DL.srcD_f, DL.eqD_ii, DL.neD_ii, DL.ix_t0, DL.ix_t1, h, decide_true, if_true]
  · by_cases h2 : 0 < dif g f
    · simp only [S_compared_1, S_compared_2, DL.kSeq_0, DL.kSeq_1, DL.kSeq_2, DL.kSeq_3, DL.kSeq_4, DL.sSeq_k, DL.sSkip_k, DL.sBreak_k, DL.sCont_k, DL.sRetN_k, DL.kExpr_0, DL.kExpr_1, DL.sExpr_k, DL.kRet_0, DL.kRet_1, DL.sRet_k, DL.kIf_0, DL.kIf_1, DL.kIf_2, DL.sIf_k, DL.kAsg2_0, DL.kAsg_0, DL.kAsg_1, DL.sAsg_k, DL.sSet_k, DL.gN_k, DL.gsN_k, DL.kG_0, DL.gsC_k, DL.gT_k, DL.kPut4_0, DL.kPut3_0, DL.kPut3_1, DL.kPut2_0, DL.kPut2_1, DL.kPut_0, DL.kPut_1, DL.sPut_k, DL.sPar_k, DL.kVar_0, DL.eVar_k, DL.eC_k, DL.kUn_0, DL.kUn_1, DL.eUn_k, DL.eIsi_k, DL.kBin2_0, DL.kBin2_1, DL.kBin_0, DL.kBin_1, DL.eBin_k, DL.aNil_k, DL.kCons2_0, DL.kCons2_1, DL.kCons_0, DL.kCons_1, DL.aCons_k, DL.kApp_0, DL.kApp_1, DL.eApp_k, DL.kMt2_0, DL.kMt2_1, DL.kMt1_0, DL.kMt_0, DL.kMt_1, DL.eMt_k, DL.kTru_0, DL.kTru_1, DL.tTru_k, DL.kAnd_0, DL.kAnd_1, DL.kAnd_2, DL.tAndF_k, DL.kOr_0, DL.kOr_1, DL.kOr_2, DL.tOrF_k, DL.kNot_0, DL.kNot_1, DL.kNot_2, DL.tNotF_k, DL.kEIf_0, DL.kEIf_1, DL.kEIf_2, DL.eIf_k, DL.kEAnd2_0, DL.kEAnd2_1, DL.kEAnd2_2, DL.kEAnd_0, DL.kEAnd_1, DL.eAnd_k, DL.kEOr2_0, DL.kEOr2_1, DL.kEOr2_2, DL.kEOr_0, DL.kEOr_1, DL.eOr_k, DL.kENot2_0, DL.kENot2_1, DL.kENot2_2, DL.kENot_0, DL.kENot_1, DL.eNot_k, DL.kSl3_0, DL.kSl3_1, DL.kSl2_0, DL.kSl2_1, DL.kSl_0, DL.kSl_1, DL.eSl_k, DL.oNone_k, DL.kOS_0, DL.kOS_1, DL.oSome_k, DL.kKw2_0, DL.kKw2_1, DL.kKw_0, DL.kKw_1, DL.eKw_k, DL.truD_bl, DL.blD_bl, DL.addD_i, DL.subD_i, DL.ltI_i, DL.leI_i, DL.gtI_i, DL.geI_i, DL.negD_i, DL.intD_i, DL.intD_b, DL.max2D_i, DL.min2D_i, DL.gcdD_i, DL.lenD_t, DL.lenD_f, DL.isD_nn, DL.isD_in, DL.isD_tn, DL.isD_bn, DL.isD_sn, DL.isD_ib, DL.isD_tb, DL.isD_bb, DL.isD_sb, DL.isD_nb, DL.isnD_bb, DL.isi_i, DL.isi_b, DL.isi_t, DL.isi_s, DL.isi_n, DL.isTy_ii, DL.isTy_bi, DL.isTy_ib, DL.isTy_bb, DL.isTy_tt, DL.isTy_it, DL.isTy_bt, DL.isTy_ti, DL.isTy_is, DL.isTy_bs, DL.isTy_ss, DL.isTy_st, DL.isTy_nt, DL.isTy_ns, DL.isTy_ni, DL.isTy_ts, DL.isTy_si, DL.isTy_tb, DL.mulD_i, DL.modD_i, DL.fdivD_i, DL.powD_i, DL.tupD_k, DL.lstD_k, DL.fnD_k, DL.endR_rt, DL.endR_nx, DL.endR_ex, List.map_cons, List.map_nil, List.replicate_succ, List.replicate_zero, List.cons_append, List.nil_append, List.getElem?_cons_zero, List.getElem?_cons_succ, List.set_cons_zero, List.set_cons_succ, Nat.reduceSub, Nat.reduceAdd, List.length_cons, List.length_nil, List.any_cons, List.any_nil, Bool.or_false, Bool.or_true, Bool.not_true, Bool.not_false, Nat.reduceLeDiff, Bool.false_or, Bool.true_or, DL.trim_eq, DL.sFor_k, DL.kFor_0, DL.cSrc_k, DL.kSrc_0, DL.cApp_k, DL.kSrcA_0, DL.srcD_t, DL.srcD_f, DL.eqD_ii, DL.neD_ii, DL.ix_t0, DL.ix_t1, h, h2, decide_true, decide_false, if_true, if_false]
    · simp only [S_compared_1, S_compared_2, DL.kSeq_0, DL.kSeq_1, DL.kSeq_2, DL.kSeq_3, DL.kSeq_4, DL.sSeq_k, DL.sSkip_k, DL.sBreak_k, DL.sCont_k, DL.sRetN_k, DL.kExpr_0, DL.kExpr_1, DL.sExpr_k, DL.kRet_0, DL.kRet_1, DL.sRet_k, DL.kIf_0, DL.kIf_1, DL.kIf_2, DL.sIf_k, DL.kAsg2_0, DL.kAsg_0, DL.kAsg_1, DL.sAsg_k, DL.sSet_k, DL.gN_k, DL.gsN_k, DL.kG_0, DL.gsC_k, DL.gT_k, DL.kPut4_0, DL.kPut3_0, DL.kPut3_1, DL.kPut2_0, DL.kPut2_1, DL.kPut_0, DL.kPut_1, DL.sPut_k, DL.sPar_k, DL.kVar_0, DL.eVar_k, DL.eC_k, DL.kUn_0, DL.kUn_1, DL.eUn_k, DL.eIsi_k, DL.kBin2_0, DL.kBin2_1, DL.kBin_0, DL.kBin_1, DL.eBin_k, DL.aNil_k, DL.kCons2_0, DL.kCons2_1, DL.kCons_0, DL.kCons_1, DL.aCons_k, DL.kApp_0, DL.kApp_1, DL.eApp_k, DL.kMt2_0, DL.kMt2_1, DL.kMt1_0, DL.kMt_0, DL.kMt_1, DL.eMt_k, DL.kTru_0, DL.kTru_1, DL.tTru_k, DL.kAnd_0, DL.kAnd_1, DL.kAnd_2, DL.tAndF_k, DL.kOr_0, DL.kOr_1, DL.kOr_2, DL.tOrF_k, DL.kNot_0, DL.kNot_1, DL.kNot_2, DL.tNotF_k, DL.kEIf_0, DL.kEIf_1, DL.kEIf_2, DL.eIf_k, DL.kEAnd2_0, DL.kEAnd2_1, DL.kEAnd2_2, DL.kEAnd_0, DL.kEAnd_1, DL.eAnd_k, DL.kEOr2_0, DL.kEOr2_1, DL.kEOr2_2, DL.kEOr_0, DL.kEOr_1, DL.eOr_k, DL.kENot2_0, DL.kENot2_1, DL.kENot2_2, DL.kENot_0, DL.kENot_1, DL.eNot_k, DL.kSl3_0, DL.kSl3_1, DL.kSl2_0, DL.kSl2_1, DL.kSl_0, DL.kSl_1, DL.eSl_k, DL.oNone_k, DL.kOS_0, DL.kOS_1, DL.oSome_k, DL.kKw2_0, DL.kKw2_1, DL.kKw_0, DL.kKw_1, DL.eKw_k, DL.truD_bl, DL.blD_bl, DL.addD_i, DL.subD_i, DL.ltI_i, DL.leI_i, DL.gtI_i, DL.geI_i, DL.negD_i, DL.intD_i, DL.intD_b, DL.max2D_i, DL.min2D_i, DL.gcdD_i, DL.lenD_t, DL.lenD_f, DL.isD_nn, DL.isD_in, DL.isD_tn, DL.isD_bn, DL.isD_sn, DL.isD_ib, DL.isD_tb, DL.isD_bb, DL.isD_sb, DL.isD_nb, DL.isnD_bb, DL.isi_i, DL.isi_b, DL.isi_t, DL.isi_s, DL.isi_n, DL.isTy_ii, DL.isTy_bi, DL.isTy_ib, DL.isTy_bb, DL.isTy_tt, DL.isTy_it, DL.isTy_bt, DL.isTy_ti, DL.isTy_is, DL.isTy_bs, DL.isTy_ss, DL.isTy_st, DL.isTy_nt, DL.isTy_ns, DL.isTy_ni, DL.isTy_ts, DL.isTy_si, DL.isTy_tb, DL.mulD_i, DL.modD_i, DL.fdivD_i, DL.powD_i, DL.tupD_k, DL.lstD_k, DL.fnD_k, DL.endR_rt, DL.endR_nx, DL.endR_ex, List.map_cons, List.map_nil, List.replicate_succ, List.replicate_zero, List.cons_append, List.nil_append, List.getElem?_cons_zero, List.getElem?_cons_succ, List.set_cons_zero, List.set_cons_succ, Nat.reduceSub, Nat.reduceAdd, List.length_cons, List.length_nil, List.any_cons, List.any_nil, Bool.or_false, Bool.or_true, Bool.not_true, Bool.not_false, Nat.reduceLeDiff, Bool.false_or, Bool.true_or, DL.trim_eq, DL.sFor_k, DL.kFor_0, DL.cSrc_k, DL.kSrc_0, DL.cApp_k, DL.kSrcA_0, DL.srcD_t, DL.srcD_f, DL.eqD_ii, DL.neD_ii, DL.ix_t0, DL.ix_t1, h, h2, decide_true, decide_false, if_true, if_false]
theorem halfway_ok (F : Mo f) (G : Mo g) (s : Sto) : F_halfway [mo f, mo g] s = .ok (loD (f.1 * g.2 + g.1 * f.2) (2 * f.2 * g.2)) s := by
  obtain ⟨b1, b2⟩ := F.b22 G
  have e : 2 * f.2 * g.2 = 2 * (f.2 * g.2) := by rw [Int.mul_assoc]
  have m1 : mulOk 2 f.2 = true := mulOk_b (m := 2) (by decide) F.b6 (by decide) (by decide)
  have m2 : mulOk (2 * f.2) g.2 = true := mulOk_b (m := 66) (natAbs_mul_lt (m := 2) (by decide) F.b6) G.b6 (by decide) (by decide)
  have l : (2 * (f.2 * g.2)).natAbs < 2 ^ 130 := natAbs_mul_lt (m := 2) (by decide) b2
  have mm := moment_ok s (a := f.1 * g.2 + g.1 * f.2) (b := 2 * f.2 * g.2) (by have := F.n12 G; have := G.n12 F; omega) (by rw [e]; omega) (by rw [e]; exact lt9000 l (by decide))
  simp only [F_halfway, B_halfway, S_halfway_0, DL.kSeq_0, DL.kSeq_1, DL.kSeq_2, DL.kSeq_3, DL.kSeq_4, DL.sSeq_k, DL.sSkip_k, DL.sBreak_k, DL.sCont_k, DL.sRetN_k, DL.kExpr_0, DL.kExpr_1, DL.sExpr_k, DL.kRet_0, DL.kRet_1, DL.sRet_k, DL.kIf_0, DL.kIf_1, DL.kIf_2, DL.sIf_k, DL.kAsg2_0, DL.kAsg_0, DL.kAsg_1, DL.sAsg_k, DL.sSet_k, DL.gN_k, DL.gsN_k, DL.kG_0, DL.gsC_k, DL.gT_k, DL.kPut4_0, DL.kPut3_0, DL.kPut3_1, DL.kPut2_0, DL.kPut2_1, DL.kPut_0, DL.kPut_1, DL.sPut_k, DL.sPar_k, DL.kVar_0, DL.eVar_k, DL.eC_k, DL.kUn_0, DL.kUn_1, DL.eUn_k, DL.eIsi_k, DL.kBin2_0, DL.kBin2_1, DL.kBin_0, DL.kBin_1, DL.eBin_k, DL.aNil_k, DL.kCons2_0, DL.kCons2_1, DL.kCons_0, DL.kCons_1, DL.aCons_k, DL.kApp_0, DL.kApp_1, DL.eApp_k, DL.kMt2_0, DL.kMt2_1, DL.kMt1_0, DL.kMt_0, DL.kMt_1, DL.eMt_k, DL.kTru_0, DL.kTru_1, DL.tTru_k, DL.kAnd_0, DL.kAnd_1, DL.kAnd_2, DL.tAndF_k, DL.kOr_0, DL.kOr_1, DL.kOr_2, DL.tOrF_k, DL.kNot_0, DL.kNot_1, DL.kNot_2, DL.tNotF_k, DL.kEIf_0, DL.kEIf_1, DL.kEIf_2, DL.eIf_k, DL.kEAnd2_0, DL.kEAnd2_1, DL.kEAnd2_2, DL.kEAnd_0, DL.kEAnd_1, DL.eAnd_k, DL.kEOr2_0, DL.kEOr2_1, DL.kEOr2_2, DL.kEOr_0, DL.kEOr_1, DL.eOr_k, DL.kENot2_0, DL.kENot2_1, DL.kENot2_2, DL.kENot_0, DL.kENot_1, DL.eNot_k, DL.kSl3_0, DL.kSl3_1, DL.kSl2_0, DL.kSl2_1, DL.kSl_0, DL.kSl_1, DL.eSl_k, DL.oNone_k, DL.kOS_0, DL.kOS_1, DL.oSome_k, DL.kKw2_0, DL.kKw2_1, DL.kKw_0, DL.kKw_1, DL.eKw_k, DL.truD_bl, DL.blD_bl, DL.addD_i, DL.subD_i, DL.ltI_i, DL.leI_i, DL.gtI_i, DL.geI_i, DL.negD_i, DL.intD_i, DL.intD_b, DL.max2D_i, DL.min2D_i, DL.gcdD_i, DL.lenD_t, DL.lenD_f, DL.isD_nn, DL.isD_in, DL.isD_tn, DL.isD_bn, DL.isD_sn, DL.isD_ib, DL.isD_tb, DL.isD_bb, DL.isD_sb, DL.isD_nb, DL.isnD_bb, DL.isi_i, DL.isi_b, DL.isi_t, DL.isi_s, DL.isi_n, DL.isTy_ii, DL.isTy_bi, DL.isTy_ib, DL.isTy_bb, DL.isTy_tt, DL.isTy_it, DL.isTy_bt, DL.isTy_ti, DL.isTy_is, DL.isTy_bs, DL.isTy_ss, DL.isTy_st, DL.isTy_nt, DL.isTy_ns, DL.isTy_ni, DL.isTy_ts, DL.isTy_si, DL.isTy_tb, DL.mulD_i, DL.modD_i, DL.fdivD_i, DL.powD_i, DL.tupD_k, DL.lstD_k, DL.fnD_k, DL.endR_rt, DL.endR_nx, DL.endR_ex, List.map_cons, List.map_nil, List.replicate_succ, List.replicate_zero, List.cons_append, List.nil_append, List.getElem?_cons_zero, List.getElem?_cons_succ, List.set_cons_zero, List.set_cons_succ, Nat.reduceSub, Nat.reduceAdd, List.length_cons, List.length_nil, List.any_cons, List.any_nil, Bool.or_false, Bool.or_true, Bool.not_true, Bool.not_false, Nat.reduceLeDiff, Bool.false_or, Bool.true_or, DL.trim_eq, DL.sFor_k, DL.kFor_0, DL.cSrc_k, DL.kSrc_0, DL.cApp_k, DL.kSrcA_0, DL.srcD_t, DL.srcD_f, DL.eqD_ii, DL.neD_ii, DL.ix_t0, DL.ix_t1, mulD_i _ _ _ (F.m12 G), mulD_i _ _ _ (G.m12 F), mulD_i _ _ _ m1, mulD_i _ _ _ m2, G_moment_2, mm]
theorem wap_ok (F : Mo f) (s : Sto) : F_whole_and_part [mo f] s = .ok (.tup [.int (f.1 / f.2), .tup [.int (f.1 % f.2), .int f.2]]) s := by
  have h0 : 0 < f.2 := by have := F.b; omega
  simp only [F_whole_and_part, B_whole_and_part, S_whole_and_part_0, S_whole_and_part_1, DL.kSeq_0, DL.kSeq_1, DL.kSeq_2, DL.kSeq_3, DL.kSeq_4, DL.sSeq_k, DL.sSkip_k, DL.sBreak_k, DL.sCont_k, DL.sRetN_k, DL.kExpr_0, DL.kExpr_1, DL.sExpr_k, DL.kRet_0, DL.kRet_1, DL.sRet_k, DL.kIf_0, DL.kIf_1, DL.kIf_2, DL.sIf_k, DL.kAsg2_0, DL.kAsg_0, DL.kAsg_1, DL.sAsg_k, DL.sSet_k, DL.gN_k, DL.gsN_k, DL.kG_0, DL.gsC_k, DL.gT_k, DL.kPut4_0, DL.kPut3_0, DL.kPut3_1, DL.kPut2_0, DL.kPut2_1, DL.kPut_0, DL.kPut_1, DL.sPut_k, DL.sPar_k, DL.kVar_0, DL.eVar_k, DL.eC_k, DL.kUn_0, DL.kUn_1, DL.eUn_k, DL.eIsi_k, DL.kBin2_0, DL.kBin2_1, DL.kBin_0, DL.kBin_1, DL.eBin_k, DL.aNil_k, DL.kCons2_0, DL.kCons2_1, DL.kCons_0, DL.kCons_1, DL.aCons_k, DL.kApp_0, DL.kApp_1, DL.eApp_k, DL.kMt2_0, DL.kMt2_1, DL.kMt1_0, DL.kMt_0, DL.kMt_1, DL.eMt_k, DL.kTru_0, DL.kTru_1, DL.tTru_k, DL.kAnd_0, DL.kAnd_1, DL.kAnd_2, DL.tAndF_k, DL.kOr_0, DL.kOr_1, DL.kOr_2, DL.tOrF_k, DL.kNot_0, DL.kNot_1, DL.kNot_2, DL.tNotF_k, DL.kEIf_0, DL.kEIf_1, DL.kEIf_2, DL.eIf_k, DL.kEAnd2_0, DL.kEAnd2_1, DL.kEAnd2_2, DL.kEAnd_0, DL.kEAnd_1, DL.eAnd_k, DL.kEOr2_0, DL.kEOr2_1, DL.kEOr2_2, DL.kEOr_0, DL.kEOr_1, DL.eOr_k, DL.kENot2_0, DL.kENot2_1, DL.kENot2_2, DL.kENot_0, DL.kENot_1, DL.eNot_k, DL.kSl3_0, DL.kSl3_1, DL.kSl2_0, DL.kSl2_1, DL.kSl_0, DL.kSl_1, DL.eSl_k, DL.oNone_k, DL.kOS_0, DL.kOS_1, DL.oSome_k, DL.kKw2_0, DL.kKw2_1, DL.kKw_0, DL.kKw_1, DL.eKw_k, DL.truD_bl, DL.blD_bl, DL.addD_i, DL.subD_i, DL.ltI_i, DL.leI_i, DL.gtI_i, DL.geI_i, DL.negD_i, DL.intD_i, DL.intD_b, DL.max2D_i, DL.min2D_i, DL.gcdD_i, DL.lenD_t, DL.lenD_f, DL.isD_nn, DL.isD_in, DL.isD_tn, DL.isD_bn, DL.isD_sn, DL.isD_ib, DL.isD_tb, DL.isD_bb, DL.isD_sb, DL.isD_nb, DL.isnD_bb, DL.isi_i, DL.isi_b, DL.isi_t, DL.isi_s, DL.isi_n, DL.isTy_ii, DL.isTy_bi, DL.isTy_ib, DL.isTy_bb, DL.isTy_tt, DL.isTy_it, DL.isTy_bt, DL.isTy_ti, DL.isTy_is, DL.isTy_bs, DL.isTy_ss, DL.isTy_st, DL.isTy_nt, DL.isTy_ns, DL.isTy_ni, DL.isTy_ts, DL.isTy_si, DL.isTy_tb, DL.mulD_i, DL.modD_i, DL.fdivD_i, DL.powD_i, DL.tupD_k, DL.lstD_k, DL.fnD_k, DL.endR_rt, DL.endR_nx, DL.endR_ex, List.map_cons, List.map_nil, List.replicate_succ, List.replicate_zero, List.cons_append, List.nil_append, List.getElem?_cons_zero, List.getElem?_cons_succ, List.set_cons_zero, List.set_cons_succ, Nat.reduceSub, Nat.reduceAdd, List.length_cons, List.length_nil, List.any_cons, List.any_nil, Bool.or_false, Bool.or_true, Bool.not_true, Bool.not_false, Nat.reduceLeDiff, Bool.false_or, Bool.true_or, DL.trim_eq, DL.sFor_k, DL.kFor_0, DL.cSrc_k, DL.kSrc_0, DL.cApp_k, DL.kSrcA_0, DL.srcD_t, DL.srcD_f, DL.eqD_ii, DL.neD_ii, DL.ix_t0, DL.ix_t1, fdivD_i _ _ _ h0 (lt9000 F.b6 (by decide)), modD_i _ _ _ h0]
end
/-! ### what the law asks of errors -/
theorem fld_k (i : Nat) (f : Str) (ρ : En) (s : Sto) {e : Exn} {d : D} (h : ρ[i]? = some (.exn e)) (hd : e.fs.lookup f = some d) : eFld i f ρ s = .ok d s := by
  unfold eFld; rw [h]; dsimp only; rw [hd]
theorem isx_k (i : Nat) (is : Str → Bool) (ρ : En) (s : Sto) {e : Exn} {b : Bool} (h : ρ[i]? = some (.exn e)) (hb : is e.cls = b) : eIsX i is ρ s = .ok (.bl b) s := by
  unfold eIsX; rw [h]; dsimp only; rw [hb]
theorem try_rt {i : Nat} {is : Str → Bool} {F G : SF} {ρ : En} {s s1 : Sto} {d : D} (h : F ρ s = .rt d s1) : sTry i is F G ρ s = .rt d s1 := by unfold sTry; rw [h]
theorem try_ex {i : Nat} {is : Str → Bool} {F G : SF} {ρ ρ1 : En} {s s1 : Sto} {e : Exn} (h : F ρ s = .ex e ρ1 s1) (hi : is e.cls = true) : sTry i is F G ρ s = endX i (G (ρ1.set i (.exn e)) s1) := by
  unfold sTry; rw [h]; dsimp only; rw [if_pos hi]
theorem endX_rt (i : Nat) (d : D) (s : Sto) : endX i (.rt d s) = .rt d s := rfl
theorem made_ok {a b : Int} (s : Sto) (ha : 0 ≤ a) (hb : 1 ≤ b) (hz : b.natAbs < 2 ^ 9000) : F__law_made [.int a, .int b, .bl false] s = .ok (.tup [.bl true, loD a b]) s := by
  simp only [F__law_made, B__law_made, DL.kSeq_0, DL.kSeq_1, DL.kSeq_2, DL.kSeq_3, DL.kSeq_4, DL.sSeq_k, DL.sSkip_k, DL.sBreak_k, DL.sCont_k, DL.sRetN_k, DL.kExpr_0, DL.kExpr_1, DL.sExpr_k, DL.kRet_0, DL.kRet_1, DL.sRet_k, DL.kIf_0, DL.kIf_1, DL.kIf_2, DL.sIf_k, DL.kAsg2_0, DL.kAsg_0, DL.kAsg_1, DL.sAsg_k, DL.sSet_k, DL.gN_k, DL.gsN_k, DL.kG_0, DL.gsC_k, DL.gT_k, DL.kPut4_0, DL.kPut3_0, DL.kPut3_1, DL.kPut2_0, DL.kPut2_1, DL.kPut_0, DL.kPut_1, DL.sPut_k, DL.sPar_k, DL.kVar_0, DL.eVar_k, DL.eC_k, DL.kUn_0, DL.kUn_1, DL.eUn_k, DL.eIsi_k, DL.kBin2_0, DL.kBin2_1, DL.kBin_0, DL.kBin_1, DL.eBin_k, DL.aNil_k, DL.kCons2_0, DL.kCons2_1, DL.kCons_0, DL.kCons_1, DL.aCons_k, DL.kApp_0, DL.kApp_1, DL.eApp_k, DL.kMt2_0, DL.kMt2_1, DL.kMt1_0, DL.kMt_0, DL.kMt_1, DL.eMt_k, DL.kTru_0, DL.kTru_1, DL.tTru_k, DL.kAnd_0, DL.kAnd_1, DL.kAnd_2, DL.tAndF_k, DL.kOr_0, DL.kOr_1, DL.kOr_2, DL.tOrF_k, DL.kNot_0, DL.kNot_1, DL.kNot_2, DL.tNotF_k, DL.kEIf_0, DL.kEIf_1, DL.kEIf_2, DL.eIf_k, DL.kEAnd2_0, DL.kEAnd2_1, DL.kEAnd2_2, DL.kEAnd_0, DL.kEAnd_1, DL.eAnd_k, DL.kEOr2_0, DL.kEOr2_1, DL.kEOr2_2, DL.kEOr_0, DL.kEOr_1, DL.eOr_k, DL.kENot2_0, DL.kENot2_1, DL.kENot2_2, DL.kENot_0, DL.kENot_1, DL.eNot_k, DL.kSl3_0, DL.kSl3_1, DL.kSl2_0, DL.kSl2_1, DL.kSl_0, DL.kSl_1, DL.eSl_k, DL.oNone_k, DL.kOS_0, DL.kOS_1, DL.oSome_k, DL.kKw2_0, DL.kKw2_1, DL.kKw_0, DL.kKw_1, DL.eKw_k, DL.truD_bl, DL.blD_bl, DL.addD_i, DL.subD_i, DL.ltI_i, DL.leI_i, DL.gtI_i, DL.geI_i, DL.negD_i, DL.intD_i, DL.intD_b, DL.max2D_i, DL.min2D_i, DL.gcdD_i, DL.lenD_t, DL.lenD_f, DL.isD_nn, DL.isD_in, DL.isD_tn, DL.isD_bn, DL.isD_sn, DL.isD_ib, DL.isD_tb, DL.isD_bb, DL.isD_sb, DL.isD_nb, DL.isnD_bb, DL.isi_i, DL.isi_b, DL.isi_t, DL.isi_s, DL.isi_n, DL.isTy_ii, DL.isTy_bi, DL.isTy_ib, DL.isTy_bb, DL.isTy_tt, DL.isTy_it, DL.isTy_bt, DL.isTy_ti, DL.isTy_is, DL.isTy_bs, DL.isTy_ss, DL.isTy_st, DL.isTy_nt, DL.isTy_ns, DL.isTy_ni, DL.isTy_ts, DL.isTy_si, DL.isTy_tb, DL.mulD_i, DL.modD_i, DL.fdivD_i, DL.powD_i, DL.tupD_k, DL.lstD_k, DL.fnD_k, DL.endR_rt, DL.endR_nx, DL.endR_ex, List.map_cons, List.map_nil, List.replicate_succ, List.replicate_zero, List.cons_append, List.nil_append, List.getElem?_cons_zero, List.getElem?_cons_succ, List.set_cons_zero, List.set_cons_succ, Nat.reduceSub, Nat.reduceAdd, List.length_cons, List.length_nil, List.any_cons, List.any_nil, Bool.or_false, Bool.or_true, Bool.not_true, Bool.not_false, Nat.reduceLeDiff, Bool.false_or, Bool.true_or, DL.trim_eq, DL.sFor_k, DL.kFor_0, DL.cSrc_k, DL.kSrc_0, DL.cApp_k, DL.kSrcA_0, DL.srcD_t, DL.srcD_f, DL.eqD_ii, DL.neD_ii, DL.ix_t0, DL.ix_t1]
  unfold S__law_made_0
  rw [try_rt (d := .tup [.bl true, loD a b]) (s1 := s) (by simp only [DL.kSeq_0, DL.kSeq_1, DL.kSeq_2, DL.kSeq_3, DL.kSeq_4, DL.sSeq_k, DL.sSkip_k, DL.sBreak_k, DL.sCont_k, DL.sRetN_k, DL.kExpr_0, DL.kExpr_1, DL.sExpr_k, DL.kRet_0, DL.kRet_1, DL.sRet_k, DL.kIf_0, DL.kIf_1, DL.kIf_2, DL.sIf_k, DL.kAsg2_0, DL.kAsg_0, DL.kAsg_1, DL.sAsg_k, DL.sSet_k, DL.gN_k, DL.gsN_k, DL.kG_0, DL.gsC_k, DL.gT_k, DL.kPut4_0, DL.kPut3_0, DL.kPut3_1, DL.kPut2_0, DL.kPut2_1, DL.kPut_0, DL.kPut_1, DL.sPut_k, DL.sPar_k, DL.kVar_0, DL.eVar_k, DL.eC_k, DL.kUn_0, DL.kUn_1, DL.eUn_k, DL.eIsi_k, DL.kBin2_0, DL.kBin2_1, DL.kBin_0, DL.kBin_1, DL.eBin_k, DL.aNil_k, DL.kCons2_0, DL.kCons2_1, DL.kCons_0, DL.kCons_1, DL.aCons_k, DL.kApp_0, DL.kApp_1, DL.eApp_k, DL.kMt2_0, DL.kMt2_1, DL.kMt1_0, DL.kMt_0, DL.kMt_1, DL.eMt_k, DL.kTru_0, DL.kTru_1, DL.tTru_k, DL.kAnd_0, DL.kAnd_1, DL.kAnd_2, DL.tAndF_k, DL.kOr_0, DL.kOr_1, DL.kOr_2, DL.tOrF_k, DL.kNot_0, DL.kNot_1, DL.kNot_2, DL.tNotF_k, DL.kEIf_0, DL.kEIf_1, DL.kEIf_2, DL.eIf_k, DL.kEAnd2_0, DL.kEAnd2_1, DL.kEAnd2_2, DL.kEAnd_0, DL.kEAnd_1, DL.eAnd_k, DL.kEOr2_0, DL.kEOr2_1, DL.kEOr2_2, DL.kEOr_0, DL.kEOr_1, DL.eOr_k, DL.kENot2_0, DL.kENot2_1, DL.kENot2_2, DL.kENot_0, DL.kENot_1, DL.eNot_k, DL.kSl3_0, DL.kSl3_1, DL.kSl2_0, DL.kSl2_1, DL.kSl_0, DL.kSl_1, DL.eSl_k, DL.oNone_k, DL.kOS_0, DL.kOS_1, DL.oSome_k, DL.kKw2_0, DL.kKw2_1, DL.kKw_0, DL.kKw_1, DL.eKw_k, DL.truD_bl, DL.blD_bl, DL.addD_i, DL.subD_i, DL.ltI_i, DL.leI_i, DL.gtI_i, DL.geI_i, DL.negD_i, DL.intD_i, DL.intD_b, DL.max2D_i, DL.min2D_i, DL.gcdD_i, DL.lenD_t, DL.lenD_f, DL.isD_nn, DL.isD_in, DL.isD_tn, DL.isD_bn, DL.isD_sn, DL.isD_ib, DL.isD_tb, DL.isD_bb, DL.isD_sb, DL.isD_nb, DL.isnD_bb, DL.isi_i, DL.isi_b, DL.isi_t, DL.isi_s, DL.isi_n, DL.isTy_ii, DL.isTy_bi, DL.isTy_ib, DL.isTy_bb, DL.isTy_tt, DL.isTy_it, DL.isTy_bt, DL.isTy_ti, DL.isTy_is, DL.isTy_bs, DL.isTy_ss, DL.isTy_st, DL.isTy_nt, DL.isTy_ns, DL.isTy_ni, DL.isTy_ts, DL.isTy_si, DL.isTy_tb, DL.mulD_i, DL.modD_i, DL.fdivD_i, DL.powD_i, DL.tupD_k, DL.lstD_k, DL.fnD_k, DL.endR_rt, DL.endR_nx, DL.endR_ex, List.map_cons, List.map_nil, List.replicate_succ, List.replicate_zero, List.cons_append, List.nil_append, List.getElem?_cons_zero, List.getElem?_cons_succ, List.set_cons_zero, List.set_cons_succ, Nat.reduceSub, Nat.reduceAdd, List.length_cons, List.length_nil, List.any_cons, List.any_nil, Bool.or_false, Bool.or_true, Bool.not_true, Bool.not_false, Nat.reduceLeDiff, Bool.false_or, Bool.true_or, DL.trim_eq, DL.sFor_k, DL.kFor_0, DL.cSrc_k, DL.kSrc_0, DL.cApp_k, DL.kSrcA_0, DL.srcD_t, DL.srcD_f, DL.eqD_ii, DL.neD_ii, DL.ix_t0, DL.ix_t1, G_moment_2, moment_ok s ha hb hz])]
  simp only [DL.kSeq_0, DL.kSeq_1, DL.kSeq_2, DL.kSeq_3, DL.kSeq_4, DL.sSeq_k, DL.sSkip_k, DL.sBreak_k, DL.sCont_k, DL.sRetN_k, DL.kExpr_0, DL.kExpr_1, DL.sExpr_k, DL.kRet_0, DL.kRet_1, DL.sRet_k, DL.kIf_0, DL.kIf_1, DL.kIf_2, DL.sIf_k, DL.kAsg2_0, DL.kAsg_0, DL.kAsg_1, DL.sAsg_k, DL.sSet_k, DL.gN_k, DL.gsN_k, DL.kG_0, DL.gsC_k, DL.gT_k, DL.kPut4_0, DL.kPut3_0, DL.kPut3_1, DL.kPut2_0, DL.kPut2_1, DL.kPut_0, DL.kPut_1, DL.sPut_k, DL.sPar_k, DL.kVar_0, DL.eVar_k, DL.eC_k, DL.kUn_0, DL.kUn_1, DL.eUn_k, DL.eIsi_k, DL.kBin2_0, DL.kBin2_1, DL.kBin_0, DL.kBin_1, DL.eBin_k, DL.aNil_k, DL.kCons2_0, DL.kCons2_1, DL.kCons_0, DL.kCons_1, DL.aCons_k, DL.kApp_0, DL.kApp_1, DL.eApp_k, DL.kMt2_0, DL.kMt2_1, DL.kMt1_0, DL.kMt_0, DL.kMt_1, DL.eMt_k, DL.kTru_0, DL.kTru_1, DL.tTru_k, DL.kAnd_0, DL.kAnd_1, DL.kAnd_2, DL.tAndF_k, DL.kOr_0, DL.kOr_1, DL.kOr_2, DL.tOrF_k, DL.kNot_0, DL.kNot_1, DL.kNot_2, DL.tNotF_k, DL.kEIf_0, DL.kEIf_1, DL.kEIf_2, DL.eIf_k, DL.kEAnd2_0, DL.kEAnd2_1, DL.kEAnd2_2, DL.kEAnd_0, DL.kEAnd_1, DL.eAnd_k, DL.kEOr2_0, DL.kEOr2_1, DL.kEOr2_2, DL.kEOr_0, DL.kEOr_1, DL.eOr_k, DL.kENot2_0, DL.kENot2_1, DL.kENot2_2, DL.kENot_0, DL.kENot_1, DL.eNot_k, DL.kSl3_0, DL.kSl3_1, DL.kSl2_0, DL.kSl2_1, DL.kSl_0, DL.kSl_1, DL.eSl_k, DL.oNone_k, DL.kOS_0, DL.kOS_1, DL.oSome_k, DL.kKw2_0, DL.kKw2_1, DL.kKw_0, DL.kKw_1, DL.eKw_k, DL.truD_bl, DL.blD_bl, DL.addD_i, DL.subD_i, DL.ltI_i, DL.leI_i, DL.gtI_i, DL.geI_i, DL.negD_i, DL.intD_i, DL.intD_b, DL.max2D_i, DL.min2D_i, DL.gcdD_i, DL.lenD_t, DL.lenD_f, DL.isD_nn, DL.isD_in, DL.isD_tn, DL.isD_bn, DL.isD_sn, DL.isD_ib, DL.isD_tb, DL.isD_bb, DL.isD_sb, DL.isD_nb, DL.isnD_bb, DL.isi_i, DL.isi_b, DL.isi_t, DL.isi_s, DL.isi_n, DL.isTy_ii, DL.isTy_bi, DL.isTy_ib, DL.isTy_bb, DL.isTy_tt, DL.isTy_it, DL.isTy_bt, DL.isTy_ti, DL.isTy_is, DL.isTy_bs, DL.isTy_ss, DL.isTy_st, DL.isTy_nt, DL.isTy_ns, DL.isTy_ni, DL.isTy_ts, DL.isTy_si, DL.isTy_tb, DL.mulD_i, DL.modD_i, DL.fdivD_i, DL.powD_i, DL.tupD_k, DL.lstD_k, DL.fnD_k, DL.endR_rt, DL.endR_nx, DL.endR_ex, List.map_cons, List.map_nil, List.replicate_succ, List.replicate_zero, List.cons_append, List.nil_append, List.getElem?_cons_zero, List.getElem?_cons_succ, List.set_cons_zero, List.set_cons_succ, Nat.reduceSub, Nat.reduceAdd, List.length_cons, List.length_nil, List.any_cons, List.any_nil, Bool.or_false, Bool.or_true, Bool.not_true, Bool.not_false, Nat.reduceLeDiff, Bool.false_or, Bool.true_or, DL.trim_eq, DL.sFor_k, DL.kFor_0, DL.cSrc_k, DL.kSrc_0, DL.cApp_k, DL.kSrcA_0, DL.srcD_t, DL.srcD_f, DL.eqD_ii, DL.neD_ii, DL.ix_t0, DL.ix_t1]
theorem made_alone {a b : Int} (s : Sto) (ha : 0 ≤ a) : F__law_made [.int a, .int b, .bl true] s = .ok (.tup [.bl true, loD a 1]) s := by
  simp only [F__law_made, B__law_made, DL.kSeq_0, DL.kSeq_1, DL.kSeq_2, DL.kSeq_3, DL.kSeq_4, DL.sSeq_k, DL.sSkip_k, DL.sBreak_k, DL.sCont_k, DL.sRetN_k, DL.kExpr_0, DL.kExpr_1, DL.sExpr_k, DL.kRet_0, DL.kRet_1, DL.sRet_k, DL.kIf_0, DL.kIf_1, DL.kIf_2, DL.sIf_k, DL.kAsg2_0, DL.kAsg_0, DL.kAsg_1, DL.sAsg_k, DL.sSet_k, DL.gN_k, DL.gsN_k, DL.kG_0, DL.gsC_k, DL.gT_k, DL.kPut4_0, DL.kPut3_0, DL.kPut3_1, DL.kPut2_0, DL.kPut2_1, DL.kPut_0, DL.kPut_1, DL.sPut_k, DL.sPar_k, DL.kVar_0, DL.eVar_k, DL.eC_k, DL.kUn_0, DL.kUn_1, DL.eUn_k, DL.eIsi_k, DL.kBin2_0, DL.kBin2_1, DL.kBin_0, DL.kBin_1, DL.eBin_k, DL.aNil_k, DL.kCons2_0, DL.kCons2_1, DL.kCons_0, DL.kCons_1, DL.aCons_k, DL.kApp_0, DL.kApp_1, DL.eApp_k, DL.kMt2_0, DL.kMt2_1, DL.kMt1_0, DL.kMt_0, DL.kMt_1, DL.eMt_k, DL.kTru_0, DL.kTru_1, DL.tTru_k, DL.kAnd_0, DL.kAnd_1, DL.kAnd_2, DL.tAndF_k, DL.kOr_0, DL.kOr_1, DL.kOr_2, DL.tOrF_k, DL.kNot_0, DL.kNot_1, DL.kNot_2, DL.tNotF_k, DL.kEIf_0, DL.kEIf_1, DL.kEIf_2, DL.eIf_k, DL.kEAnd2_0, DL.kEAnd2_1, DL.kEAnd2_2, DL.kEAnd_0, DL.kEAnd_1, DL.eAnd_k, DL.kEOr2_0, DL.kEOr2_1, DL.kEOr2_2, DL.kEOr_0, DL.kEOr_1, DL.eOr_k, DL.kENot2_0, DL.kENot2_1, DL.kENot2_2, DL.kENot_0, DL.kENot_1, DL.eNot_k, DL.kSl3_0, DL.kSl3_1, DL.kSl2_0, DL.kSl2_1, DL.kSl_0, DL.kSl_1, DL.eSl_k, DL.oNone_k, DL.kOS_0, DL.kOS_1, DL.oSome_k, DL.kKw2_0, DL.kKw2_1, DL.kKw_0, DL.kKw_1, DL.eKw_k, DL.truD_bl, DL.blD_bl, DL.addD_i, DL.subD_i, DL.ltI_i, DL.leI_i, DL.gtI_i, DL.geI_i, DL.negD_i, DL.intD_i, DL.intD_b, DL.max2D_i, DL.min2D_i, DL.gcdD_i, DL.lenD_t, DL.lenD_f, DL.isD_nn, DL.isD_in, DL.isD_tn, DL.isD_bn, DL.isD_sn, DL.isD_ib, DL.isD_tb, DL.isD_bb, DL.isD_sb, DL.isD_nb, DL.isnD_bb, DL.isi_i, DL.isi_b, DL.isi_t, DL.isi_s, DL.isi_n, DL.isTy_ii, DL.isTy_bi, DL.isTy_ib, DL.isTy_bb, DL.isTy_tt, DL.isTy_it, DL.isTy_bt, DL.isTy_ti, DL.isTy_is, DL.isTy_bs, DL.isTy_ss, DL.isTy_st, DL.isTy_nt, DL.isTy_ns, DL.isTy_ni, DL.isTy_ts, DL.isTy_si, DL.isTy_tb, DL.mulD_i, DL.modD_i, DL.fdivD_i, DL.powD_i, DL.tupD_k, DL.lstD_k, DL.fnD_k, DL.endR_rt, DL.endR_nx, DL.endR_ex, List.map_cons, List.map_nil, List.replicate_succ, List.replicate_zero, List.cons_append, List.nil_append, List.getElem?_cons_zero, List.getElem?_cons_succ, List.set_cons_zero, List.set_cons_succ, Nat.reduceSub, Nat.reduceAdd, List.length_cons, List.length_nil, List.any_cons, List.any_nil, Bool.or_false, Bool.or_true, Bool.not_true, Bool.not_false, Nat.reduceLeDiff, Bool.false_or, Bool.true_or, DL.trim_eq, DL.sFor_k, DL.kFor_0, DL.cSrc_k, DL.kSrc_0, DL.cApp_k, DL.kSrcA_0, DL.srcD_t, DL.srcD_f, DL.eqD_ii, DL.neD_ii, DL.ix_t0, DL.ix_t1]
  unfold S__law_made_0
  rw [try_rt (d := .tup [.bl true, loD a 1]) (s1 := s) (by simp only [DL.kSeq_0, DL.kSeq_1, DL.kSeq_2, DL.kSeq_3, DL.kSeq_4, DL.sSeq_k, DL.sSkip_k, DL.sBreak_k, DL.sCont_k, DL.sRetN_k, DL.kExpr_0, DL.kExpr_1, DL.sExpr_k, DL.kRet_0, DL.kRet_1, DL.sRet_k, DL.kIf_0, DL.kIf_1, DL.kIf_2, DL.sIf_k, DL.kAsg2_0, DL.kAsg_0, DL.kAsg_1, DL.sAsg_k, DL.sSet_k, DL.gN_k, DL.gsN_k, DL.kG_0, DL.gsC_k, DL.gT_k, DL.kPut4_0, DL.kPut3_0, DL.kPut3_1, DL.kPut2_0, DL.kPut2_1, DL.kPut_0, DL.kPut_1, DL.sPut_k, DL.sPar_k, DL.kVar_0, DL.eVar_k, DL.eC_k, DL.kUn_0, DL.kUn_1, DL.eUn_k, DL.eIsi_k, DL.kBin2_0, DL.kBin2_1, DL.kBin_0, DL.kBin_1, DL.eBin_k, DL.aNil_k, DL.kCons2_0, DL.kCons2_1, DL.kCons_0, DL.kCons_1, DL.aCons_k, DL.kApp_0, DL.kApp_1, DL.eApp_k, DL.kMt2_0, DL.kMt2_1, DL.kMt1_0, DL.kMt_0, DL.kMt_1, DL.eMt_k, DL.kTru_0, DL.kTru_1, DL.tTru_k, DL.kAnd_0, DL.kAnd_1, DL.kAnd_2, DL.tAndF_k, DL.kOr_0, DL.kOr_1, DL.kOr_2, DL.tOrF_k, DL.kNot_0, DL.kNot_1, DL.kNot_2, DL.tNotF_k, DL.kEIf_0, DL.kEIf_1, DL.kEIf_2, DL.eIf_k, DL.kEAnd2_0, DL.kEAnd2_1, DL.kEAnd2_2, DL.kEAnd_0, DL.kEAnd_1, DL.eAnd_k, DL.kEOr2_0, DL.kEOr2_1, DL.kEOr2_2, DL.kEOr_0, DL.kEOr_1, DL.eOr_k, DL.kENot2_0, DL.kENot2_1, DL.kENot2_2, DL.kENot_0, DL.kENot_1, DL.eNot_k, DL.kSl3_0, DL.kSl3_1, DL.kSl2_0, DL.kSl2_1, DL.kSl_0, DL.kSl_1, DL.eSl_k, DL.oNone_k, DL.kOS_0, DL.kOS_1, DL.oSome_k, DL.kKw2_0, DL.kKw2_1, DL.kKw_0, DL.kKw_1, DL.eKw_k, DL.truD_bl, DL.blD_bl, DL.addD_i, DL.subD_i, DL.ltI_i, DL.leI_i, DL.gtI_i, DL.geI_i, DL.negD_i, DL.intD_i, DL.intD_b, DL.max2D_i, DL.min2D_i, DL.gcdD_i, DL.lenD_t, DL.lenD_f, DL.isD_nn, DL.isD_in, DL.isD_tn, DL.isD_bn, DL.isD_sn, DL.isD_ib, DL.isD_tb, DL.isD_bb, DL.isD_sb, DL.isD_nb, DL.isnD_bb, DL.isi_i, DL.isi_b, DL.isi_t, DL.isi_s, DL.isi_n, DL.isTy_ii, DL.isTy_bi, DL.isTy_ib, DL.isTy_bb, DL.isTy_tt, DL.isTy_it, DL.isTy_bt, DL.isTy_ti, DL.isTy_is, DL.isTy_bs, DL.isTy_ss, DL.isTy_st, DL.isTy_nt, DL.isTy_ns, DL.isTy_ni, DL.isTy_ts, DL.isTy_si, DL.isTy_tb, DL.mulD_i, DL.modD_i, DL.fdivD_i, DL.powD_i, DL.tupD_k, DL.lstD_k, DL.fnD_k, DL.endR_rt, DL.endR_nx, DL.endR_ex, List.map_cons, List.map_nil, List.replicate_succ, List.replicate_zero, List.cons_append, List.nil_append, List.getElem?_cons_zero, List.getElem?_cons_succ, List.set_cons_zero, List.set_cons_succ, Nat.reduceSub, Nat.reduceAdd, List.length_cons, List.length_nil, List.any_cons, List.any_nil, Bool.or_false, Bool.or_true, Bool.not_true, Bool.not_false, Nat.reduceLeDiff, Bool.false_or, Bool.true_or, DL.trim_eq, DL.sFor_k, DL.kFor_0, DL.cSrc_k, DL.kSrc_0, DL.cApp_k, DL.kSrcA_0, DL.srcD_t, DL.srcD_f, DL.eqD_ii, DL.neD_ii, DL.ix_t0, DL.ix_t1, G_moment_1, moment_ok s ha (Int.le_refl 1) (lt9000 (m := 1) (by decide) (by decide))])]
  simp only [DL.kSeq_0, DL.kSeq_1, DL.kSeq_2, DL.kSeq_3, DL.kSeq_4, DL.sSeq_k, DL.sSkip_k, DL.sBreak_k, DL.sCont_k, DL.sRetN_k, DL.kExpr_0, DL.kExpr_1, DL.sExpr_k, DL.kRet_0, DL.kRet_1, DL.sRet_k, DL.kIf_0, DL.kIf_1, DL.kIf_2, DL.sIf_k, DL.kAsg2_0, DL.kAsg_0, DL.kAsg_1, DL.sAsg_k, DL.sSet_k, DL.gN_k, DL.gsN_k, DL.kG_0, DL.gsC_k, DL.gT_k, DL.kPut4_0, DL.kPut3_0, DL.kPut3_1, DL.kPut2_0, DL.kPut2_1, DL.kPut_0, DL.kPut_1, DL.sPut_k, DL.sPar_k, DL.kVar_0, DL.eVar_k, DL.eC_k, DL.kUn_0, DL.kUn_1, DL.eUn_k, DL.eIsi_k, DL.kBin2_0, DL.kBin2_1, DL.kBin_0, DL.kBin_1, DL.eBin_k, DL.aNil_k, DL.kCons2_0, DL.kCons2_1, DL.kCons_0, DL.kCons_1, DL.aCons_k, DL.kApp_0, DL.kApp_1, DL.eApp_k, DL.kMt2_0, DL.kMt2_1, DL.kMt1_0, DL.kMt_0, DL.kMt_1, DL.eMt_k, DL.kTru_0, DL.kTru_1, DL.tTru_k, DL.kAnd_0, DL.kAnd_1, DL.kAnd_2, DL.tAndF_k, DL.kOr_0, DL.kOr_1, DL.kOr_2, DL.tOrF_k, DL.kNot_0, DL.kNot_1, DL.kNot_2, DL.tNotF_k, DL.kEIf_0, DL.kEIf_1, DL.kEIf_2, DL.eIf_k, DL.kEAnd2_0, DL.kEAnd2_1, DL.kEAnd2_2, DL.kEAnd_0, DL.kEAnd_1, DL.eAnd_k, DL.kEOr2_0, DL.kEOr2_1, DL.kEOr2_2, DL.kEOr_0, DL.kEOr_1, DL.eOr_k, DL.kENot2_0, DL.kENot2_1, DL.kENot2_2, DL.kENot_0, DL.kENot_1, DL.eNot_k, DL.kSl3_0, DL.kSl3_1, DL.kSl2_0, DL.kSl2_1, DL.kSl_0, DL.kSl_1, DL.eSl_k, DL.oNone_k, DL.kOS_0, DL.kOS_1, DL.oSome_k, DL.kKw2_0, DL.kKw2_1, DL.kKw_0, DL.kKw_1, DL.eKw_k, DL.truD_bl, DL.blD_bl, DL.addD_i, DL.subD_i, DL.ltI_i, DL.leI_i, DL.gtI_i, DL.geI_i, DL.negD_i, DL.intD_i, DL.intD_b, DL.max2D_i, DL.min2D_i, DL.gcdD_i, DL.lenD_t, DL.lenD_f, DL.isD_nn, DL.isD_in, DL.isD_tn, DL.isD_bn, DL.isD_sn, DL.isD_ib, DL.isD_tb, DL.isD_bb, DL.isD_sb, DL.isD_nb, DL.isnD_bb, DL.isi_i, DL.isi_b, DL.isi_t, DL.isi_s, DL.isi_n, DL.isTy_ii, DL.isTy_bi, DL.isTy_ib, DL.isTy_bb, DL.isTy_tt, DL.isTy_it, DL.isTy_bt, DL.isTy_ti, DL.isTy_is, DL.isTy_bs, DL.isTy_ss, DL.isTy_st, DL.isTy_nt, DL.isTy_ns, DL.isTy_ni, DL.isTy_ts, DL.isTy_si, DL.isTy_tb, DL.mulD_i, DL.modD_i, DL.fdivD_i, DL.powD_i, DL.tupD_k, DL.lstD_k, DL.fnD_k, DL.endR_rt, DL.endR_nx, DL.endR_ex, List.map_cons, List.map_nil, List.replicate_succ, List.replicate_zero, List.cons_append, List.nil_append, List.getElem?_cons_zero, List.getElem?_cons_succ, List.set_cons_zero, List.set_cons_succ, Nat.reduceSub, Nat.reduceAdd, List.length_cons, List.length_nil, List.any_cons, List.any_nil, Bool.or_false, Bool.or_true, Bool.not_true, Bool.not_false, Nat.reduceLeDiff, Bool.false_or, Bool.true_or, DL.trim_eq, DL.sFor_k, DL.kFor_0, DL.cSrc_k, DL.kSrc_0, DL.cApp_k, DL.kSrcA_0, DL.srcD_t, DL.srcD_f, DL.eqD_ii, DL.neD_ii, DL.ix_t0, DL.ix_t1]
theorem made_end {a b : Int} {c : Bool} {v : D} (s : Sto) : endX 3 (sSeq (sSet 4 (eAnd (eIsX 3 is_BellError) (eIsX 3 is_ValueError)))
    (sSeq (sSet 4 (eAnd (eVar 4) (eAnd (eNot (eIsX 3 is_Backwards)) (eNot (eIsX 3 is_InvalidSpan)))))
    (sRet (eApp tupD (aCons (eC (.bl false)) (aCons (eApp tupD (aCons (eFld 3 "value") (aCons (eVar 4) aNil))) aNil))))) [.d (.int a), .d (.int b), .d (.bl c), .exn ⟨"InvalidMoment", [("value", v)]⟩, .un] s) = .rt (.tup [.bl false, .tup [v, .bl true]]) s := by
  have k1 : ∀ z : Sl, eIsX 3 is_BellError [.d (.int a), .d (.int b), .d (.bl c), .exn ⟨"InvalidMoment", [("value", v)]⟩, z] s = .ok (.bl true) s := fun z => isx_k _ _ _ _ rfl (by dsimp only; decide +kernel)
  have k2 : ∀ z : Sl, eIsX 3 is_ValueError [.d (.int a), .d (.int b), .d (.bl c), .exn ⟨"InvalidMoment", [("value", v)]⟩, z] s = .ok (.bl true) s := fun z => isx_k _ _ _ _ rfl (by dsimp only; decide +kernel)
  have k3 : ∀ z : Sl, eIsX 3 is_Backwards [.d (.int a), .d (.int b), .d (.bl c), .exn ⟨"InvalidMoment", [("value", v)]⟩, z] s = .ok (.bl false) s := fun z => isx_k _ _ _ _ rfl (by dsimp only; decide +kernel)
  have k4 : ∀ z : Sl, eIsX 3 is_InvalidSpan [.d (.int a), .d (.int b), .d (.bl c), .exn ⟨"InvalidMoment", [("value", v)]⟩, z] s = .ok (.bl false) s := fun z => isx_k _ _ _ _ rfl (by dsimp only; decide +kernel)
  have k5 : ∀ z : Sl, eFld 3 "value" [.d (.int a), .d (.int b), .d (.bl c), .exn ⟨"InvalidMoment", [("value", v)]⟩, z] s = .ok v s := fun z => fld_k _ _ _ _ rfl (by simp [List.lookup])
  simp only [DL.kSeq_0, DL.kSeq_1, DL.kSeq_2, DL.kSeq_3, DL.kSeq_4, DL.sSeq_k, DL.sSkip_k, DL.sBreak_k, DL.sCont_k, DL.sRetN_k, DL.kExpr_0, DL.kExpr_1, DL.sExpr_k, DL.kRet_0, DL.kRet_1, DL.sRet_k, DL.kIf_0, DL.kIf_1, DL.kIf_2, DL.sIf_k, DL.kAsg2_0, DL.kAsg_0, DL.kAsg_1, DL.sAsg_k, DL.sSet_k, DL.gN_k, DL.gsN_k, DL.kG_0, DL.gsC_k, DL.gT_k, DL.kPut4_0, DL.kPut3_0, DL.kPut3_1, DL.kPut2_0, DL.kPut2_1, DL.kPut_0, DL.kPut_1, DL.sPut_k, DL.sPar_k, DL.kVar_0, DL.eVar_k, DL.eC_k, DL.kUn_0, DL.kUn_1, DL.eUn_k, DL.eIsi_k, DL.kBin2_0, DL.kBin2_1, DL.kBin_0, DL.kBin_1, DL.eBin_k, DL.aNil_k, DL.kCons2_0, DL.kCons2_1, DL.kCons_0, DL.kCons_1, DL.aCons_k, DL.kApp_0, DL.kApp_1, DL.eApp_k, DL.kMt2_0, DL.kMt2_1, DL.kMt1_0, DL.kMt_0, DL.kMt_1, DL.eMt_k, DL.kTru_0, DL.kTru_1, DL.tTru_k, DL.kAnd_0, DL.kAnd_1, DL.kAnd_2, DL.tAndF_k, DL.kOr_0, DL.kOr_1, DL.kOr_2, DL.tOrF_k, DL.kNot_0, DL.kNot_1, DL.kNot_2, DL.tNotF_k, DL.kEIf_0, DL.kEIf_1, DL.kEIf_2, DL.eIf_k, DL.kEAnd2_0, DL.kEAnd2_1, DL.kEAnd2_2, DL.kEAnd_0, DL.kEAnd_1, DL.eAnd_k, DL.kEOr2_0, DL.kEOr2_1, DL.kEOr2_2, DL.kEOr_0, DL.kEOr_1, DL.eOr_k, DL.kENot2_0, DL.kENot2_1, DL.kENot2_2, DL.kENot_0, DL.kENot_1, DL.eNot_k, DL.kSl3_0, DL.kSl3_1, DL.kSl2_0, DL.kSl2_1, DL.kSl_0, DL.kSl_1, DL.eSl_k, DL.oNone_k, DL.kOS_0, DL.kOS_1, DL.oSome_k, DL.kKw2_0, DL.kKw2_1, DL.kKw_0, DL.kKw_1, DL.eKw_k, DL.truD_bl, DL.blD_bl, DL.addD_i, DL.subD_i, DL.ltI_i, DL.leI_i, DL.gtI_i, DL.geI_i, DL.negD_i, DL.intD_i, DL.intD_b, DL.max2D_i, DL.min2D_i, DL.gcdD_i, DL.lenD_t, DL.lenD_f, DL.isD_nn, DL.isD_in, DL.isD_tn, DL.isD_bn, DL.isD_sn, DL.isD_ib, DL.isD_tb, DL.isD_bb, DL.isD_sb, DL.isD_nb, DL.isnD_bb, DL.isi_i, DL.isi_b, DL.isi_t, DL.isi_s, DL.isi_n, DL.isTy_ii, DL.isTy_bi, DL.isTy_ib, DL.isTy_bb, DL.isTy_tt, DL.isTy_it, DL.isTy_bt, DL.isTy_ti, DL.isTy_is, DL.isTy_bs, DL.isTy_ss, DL.isTy_st, DL.isTy_nt, DL.isTy_ns, DL.isTy_ni, DL.isTy_ts, DL.isTy_si, DL.isTy_tb, DL.mulD_i, DL.modD_i, DL.fdivD_i, DL.powD_i, DL.tupD_k, DL.lstD_k, DL.fnD_k, DL.endR_rt, DL.endR_nx, DL.endR_ex, List.map_cons, List.map_nil, List.replicate_succ, List.replicate_zero, List.cons_append, List.nil_append, List.getElem?_cons_zero, List.getElem?_cons_succ, List.set_cons_zero, List.set_cons_succ, Nat.reduceSub, Nat.reduceAdd, List.length_cons, List.length_nil, List.any_cons, List.any_nil, Bool.or_false, Bool.or_true, Bool.not_true, Bool.not_false, Nat.reduceLeDiff, Bool.false_or, Bool.true_or, DL.trim_eq, DL.sFor_k, DL.kFor_0, DL.cSrc_k, DL.kSrc_0, DL.cApp_k, DL.kSrcA_0, DL.srcD_t, DL.srcD_f, DL.eqD_ii, DL.neD_ii, DL.ix_t0, DL.ix_t1, k1, k2, k3, k4, k5, endX_rt]
theorem made_bad {a b : Int} (s : Sto) (h : a < 0 ∨ b < 1) : F__law_made [.int a, .int b, .bl false] s = .ok (.tup [.bl false, .tup [.tup [.int a, .int b], .bl true]]) s := by
  simp only [F__law_made, B__law_made, DL.kSeq_0, DL.kSeq_1, DL.kSeq_2, DL.kSeq_3, DL.kSeq_4, DL.sSeq_k, DL.sSkip_k, DL.sBreak_k, DL.sCont_k, DL.sRetN_k, DL.kExpr_0, DL.kExpr_1, DL.sExpr_k, DL.kRet_0, DL.kRet_1, DL.sRet_k, DL.kIf_0, DL.kIf_1, DL.kIf_2, DL.sIf_k, DL.kAsg2_0, DL.kAsg_0, DL.kAsg_1, DL.sAsg_k, DL.sSet_k, DL.gN_k, DL.gsN_k, DL.kG_0, DL.gsC_k, DL.gT_k, DL.kPut4_0, DL.kPut3_0, DL.kPut3_1, DL.kPut2_0, DL.kPut2_1, DL.kPut_0, DL.kPut_1, DL.sPut_k, DL.sPar_k, DL.kVar_0, DL.eVar_k, DL.eC_k, DL.kUn_0, DL.kUn_1, DL.eUn_k, DL.eIsi_k, DL.kBin2_0, DL.kBin2_1, DL.kBin_0, DL.kBin_1, DL.eBin_k, DL.aNil_k, DL.kCons2_0, DL.kCons2_1, DL.kCons_0, DL.kCons_1, DL.aCons_k, DL.kApp_0, DL.kApp_1, DL.eApp_k, DL.kMt2_0, DL.kMt2_1, DL.kMt1_0, DL.kMt_0, DL.kMt_1, DL.eMt_k, DL.kTru_0, DL.kTru_1, DL.tTru_k, DL.kAnd_0, DL.kAnd_1, DL.kAnd_2, DL.tAndF_k, DL.kOr_0, DL.kOr_1, DL.kOr_2, DL.tOrF_k, DL.kNot_0, DL.kNot_1, DL.kNot_2, DL.tNotF_k, DL.kEIf_0, DL.kEIf_1, DL.kEIf_2, DL.eIf_k, DL.kEAnd2_0, DL.kEAnd2_1, DL.kEAnd2_2, DL.kEAnd_0, DL.kEAnd_1, DL.eAnd_k, DL.kEOr2_0, DL.kEOr2_1, DL.kEOr2_2, DL.kEOr_0, DL.kEOr_1, DL.eOr_k, DL.kENot2_0, DL.kENot2_1, DL.kENot2_2, DL.kENot_0, DL.kENot_1, DL.eNot_k, DL.kSl3_0, DL.kSl3_1, DL.kSl2_0, DL.kSl2_1, DL.kSl_0, DL.kSl_1, DL.eSl_k, DL.oNone_k, DL.kOS_0, DL.kOS_1, DL.oSome_k, DL.kKw2_0, DL.kKw2_1, DL.kKw_0, DL.kKw_1, DL.eKw_k, DL.truD_bl, DL.blD_bl, DL.addD_i, DL.subD_i, DL.ltI_i, DL.leI_i, DL.gtI_i, DL.geI_i, DL.negD_i, DL.intD_i, DL.intD_b, DL.max2D_i, DL.min2D_i, DL.gcdD_i, DL.lenD_t, DL.lenD_f, DL.isD_nn, DL.isD_in, DL.isD_tn, DL.isD_bn, DL.isD_sn, DL.isD_ib, DL.isD_tb, DL.isD_bb, DL.isD_sb, DL.isD_nb, DL.isnD_bb, DL.isi_i, DL.isi_b, DL.isi_t, DL.isi_s, DL.isi_n, DL.isTy_ii, DL.isTy_bi, DL.isTy_ib, DL.isTy_bb, DL.isTy_tt, DL.isTy_it, DL.isTy_bt, DL.isTy_ti, DL.isTy_is, DL.isTy_bs, DL.isTy_ss, DL.isTy_st, DL.isTy_nt, DL.isTy_ns, DL.isTy_ni, DL.isTy_ts, DL.isTy_si, DL.isTy_tb, DL.mulD_i, DL.modD_i, DL.fdivD_i, DL.powD_i, DL.tupD_k, DL.lstD_k, DL.fnD_k, DL.endR_rt, DL.endR_nx, DL.endR_ex, List.map_cons, List.map_nil, List.replicate_succ, List.replicate_zero, List.cons_append, List.nil_append, List.getElem?_cons_zero, List.getElem?_cons_succ, List.set_cons_zero, List.set_cons_succ, Nat.reduceSub, Nat.reduceAdd, List.length_cons, List.length_nil, List.any_cons, List.any_nil, Bool.or_false, Bool.or_true, Bool.not_true, Bool.not_false, Nat.reduceLeDiff, Bool.false_or, Bool.true_or, DL.trim_eq, DL.sFor_k, DL.kFor_0, DL.cSrc_k, DL.kSrc_0, DL.cApp_k, DL.kSrcA_0, DL.srcD_t, DL.srcD_f, DL.eqD_ii, DL.neD_ii, DL.ix_t0, DL.ix_t1]
  unfold S__law_made_0
  rw [try_ex (e := ⟨"InvalidMoment", [("value", .tup [.int a, .int b])]⟩) (ρ1 := [.d (.int a), .d (.int b), .d (.bl false), .un, .un]) (s1 := s) (by simp only [DL.kSeq_0, DL.kSeq_1, DL.kSeq_2, DL.kSeq_3, DL.kSeq_4, DL.sSeq_k, DL.sSkip_k, DL.sBreak_k, DL.sCont_k, DL.sRetN_k, DL.kExpr_0, DL.kExpr_1, DL.sExpr_k, DL.kRet_0, DL.kRet_1, DL.sRet_k, DL.kIf_0, DL.kIf_1, DL.kIf_2, DL.sIf_k, DL.kAsg2_0, DL.kAsg_0, DL.kAsg_1, DL.sAsg_k, DL.sSet_k, DL.gN_k, DL.gsN_k, DL.kG_0, DL.gsC_k, DL.gT_k, DL.kPut4_0, DL.kPut3_0, DL.kPut3_1, DL.kPut2_0, DL.kPut2_1, DL.kPut_0, DL.kPut_1, DL.sPut_k, DL.sPar_k, DL.kVar_0, DL.eVar_k, DL.eC_k, DL.kUn_0, DL.kUn_1, DL.eUn_k, DL.eIsi_k, DL.kBin2_0, DL.kBin2_1, DL.kBin_0, DL.kBin_1, DL.eBin_k, DL.aNil_k, DL.kCons2_0, DL.kCons2_1, DL.kCons_0, DL.kCons_1, DL.aCons_k, DL.kApp_0, DL.kApp_1, DL.eApp_k, DL.kMt2_0, DL.kMt2_1, DL.kMt1_0, DL.kMt_0, DL.kMt_1, DL.eMt_k, DL.kTru_0, DL.kTru_1, DL.tTru_k, DL.kAnd_0, DL.kAnd_1, DL.kAnd_2, DL.tAndF_k, DL.kOr_0, DL.kOr_1, DL.kOr_2, DL.tOrF_k, DL.kNot_0, DL.kNot_1, DL.kNot_2, DL.tNotF_k, DL.kEIf_0, DL.kEIf_1, DL.kEIf_2, DL.eIf_k, DL.kEAnd2_0, DL.kEAnd2_1, DL.kEAnd2_2, DL.kEAnd_0, DL.kEAnd_1, DL.eAnd_k, DL.kEOr2_0, DL.kEOr2_1, DL.kEOr2_2, DL.kEOr_0, DL.kEOr_1, DL.eOr_k, DL.kENot2_0, DL.kENot2_1, DL.kENot2_2, DL.kENot_0, DL.kENot_1, DL.eNot_k, DL.kSl3_0, DL.kSl3_1, DL.kSl2_0, DL.kSl2_1, DL.kSl_0, DL.kSl_1, DL.eSl_k, DL.oNone_k, DL.kOS_0, DL.kOS_1, DL.oSome_k, DL.kKw2_0, DL.kKw2_1, DL.kKw_0, DL.kKw_1, DL.eKw_k, DL.truD_bl, DL.blD_bl, DL.addD_i, DL.subD_i, DL.ltI_i, DL.leI_i, DL.gtI_i, DL.geI_i, DL.negD_i, DL.intD_i, DL.intD_b, DL.max2D_i, DL.min2D_i, DL.gcdD_i, DL.lenD_t, DL.lenD_f, DL.isD_nn, DL.isD_in, DL.isD_tn, DL.isD_bn, DL.isD_sn, DL.isD_ib, DL.isD_tb, DL.isD_bb, DL.isD_sb, DL.isD_nb, DL.isnD_bb, DL.isi_i, DL.isi_b, DL.isi_t, DL.isi_s, DL.isi_n, DL.isTy_ii, DL.isTy_bi, DL.isTy_ib, DL.isTy_bb, DL.isTy_tt, DL.isTy_it, DL.isTy_bt, DL.isTy_ti, DL.isTy_is, DL.isTy_bs, DL.isTy_ss, DL.isTy_st, DL.isTy_nt, DL.isTy_ns, DL.isTy_ni, DL.isTy_ts, DL.isTy_si, DL.isTy_tb, DL.mulD_i, DL.modD_i, DL.fdivD_i, DL.powD_i, DL.tupD_k, DL.lstD_k, DL.fnD_k, DL.endR_rt, DL.endR_nx, DL.endR_ex, List.map_cons, List.map_nil, List.replicate_succ, List.replicate_zero, List.cons_append, List.nil_append, List.getElem?_cons_zero, List.getElem?_cons_succ, List.set_cons_zero, List.set_cons_succ, Nat.reduceSub, Nat.reduceAdd, List.length_cons, List.length_nil, List.any_cons, List.any_nil, Bool.or_false, Bool.or_true, Bool.not_true, Bool.not_false, Nat.reduceLeDiff, Bool.false_or, Bool.true_or, DL.trim_eq, DL.sFor_k, DL.kFor_0, DL.cSrc_k, DL.kSrc_0, DL.cApp_k, DL.kSrcA_0, DL.srcD_t, DL.srcD_f, DL.eqD_ii, DL.neD_ii, DL.ix_t0, DL.ix_t1, G_moment_2, moment_bad s h]) (by dsimp only; decide +kernel)]
  simp only [List.set_cons_succ, List.set_cons_zero]
  rw [made_end]
  simp only [DL.kSeq_0, DL.kSeq_1, DL.kSeq_2, DL.kSeq_3, DL.kSeq_4, DL.sSeq_k, DL.sSkip_k, DL.sBreak_k, DL.sCont_k, DL.sRetN_k, DL.kExpr_0, DL.kExpr_1, DL.sExpr_k, DL.kRet_0, DL.kRet_1, DL.sRet_k, DL.kIf_0, DL.kIf_1, DL.kIf_2, DL.sIf_k, DL.kAsg2_0, DL.kAsg_0, DL.kAsg_1, DL.sAsg_k, DL.sSet_k, DL.gN_k, DL.gsN_k, DL.kG_0, DL.gsC_k, DL.gT_k, DL.kPut4_0, DL.kPut3_0, DL.kPut3_1, DL.kPut2_0, DL.kPut2_1, DL.kPut_0, DL.kPut_1, DL.sPut_k, DL.sPar_k, DL.kVar_0, DL.eVar_k, DL.eC_k, DL.kUn_0, DL.kUn_1, DL.eUn_k, DL.eIsi_k, DL.kBin2_0, DL.kBin2_1, DL.kBin_0, DL.kBin_1, DL.eBin_k, DL.aNil_k, DL.kCons2_0, DL.kCons2_1, DL.kCons_0, DL.kCons_1, DL.aCons_k, DL.kApp_0, DL.kApp_1, DL.eApp_k, DL.kMt2_0, DL.kMt2_1, DL.kMt1_0, DL.kMt_0, DL.kMt_1, DL.eMt_k, DL.kTru_0, DL.kTru_1, DL.tTru_k, DL.kAnd_0, DL.kAnd_1, DL.kAnd_2, DL.tAndF_k, DL.kOr_0, DL.kOr_1, DL.kOr_2, DL.tOrF_k, DL.kNot_0, DL.kNot_1, DL.kNot_2, DL.tNotF_k, DL.kEIf_0, DL.kEIf_1, DL.kEIf_2, DL.eIf_k, DL.kEAnd2_0, DL.kEAnd2_1, DL.kEAnd2_2, DL.kEAnd_0, DL.kEAnd_1, DL.eAnd_k, DL.kEOr2_0, DL.kEOr2_1, DL.kEOr2_2, DL.kEOr_0, DL.kEOr_1, DL.eOr_k, DL.kENot2_0, DL.kENot2_1, DL.kENot2_2, DL.kENot_0, DL.kENot_1, DL.eNot_k, DL.kSl3_0, DL.kSl3_1, DL.kSl2_0, DL.kSl2_1, DL.kSl_0, DL.kSl_1, DL.eSl_k, DL.oNone_k, DL.kOS_0, DL.kOS_1, DL.oSome_k, DL.kKw2_0, DL.kKw2_1, DL.kKw_0, DL.kKw_1, DL.eKw_k, DL.truD_bl, DL.blD_bl, DL.addD_i, DL.subD_i, DL.ltI_i, DL.leI_i, DL.gtI_i, DL.geI_i, DL.negD_i, DL.intD_i, DL.intD_b, DL.max2D_i, DL.min2D_i, DL.gcdD_i, DL.lenD_t, DL.lenD_f, DL.isD_nn, DL.isD_in, DL.isD_tn, DL.isD_bn, DL.isD_sn, DL.isD_ib, DL.isD_tb, DL.isD_bb, DL.isD_sb, DL.isD_nb, DL.isnD_bb, DL.isi_i, DL.isi_b, DL.isi_t, DL.isi_s, DL.isi_n, DL.isTy_ii, DL.isTy_bi, DL.isTy_ib, DL.isTy_bb, DL.isTy_tt, DL.isTy_it, DL.isTy_bt, DL.isTy_ti, DL.isTy_is, DL.isTy_bs, DL.isTy_ss, DL.isTy_st, DL.isTy_nt, DL.isTy_ns, DL.isTy_ni, DL.isTy_ts, DL.isTy_si, DL.isTy_tb, DL.mulD_i, DL.modD_i, DL.fdivD_i, DL.powD_i, DL.tupD_k, DL.lstD_k, DL.fnD_k, DL.endR_rt, DL.endR_nx, DL.endR_ex, List.map_cons, List.map_nil, List.replicate_succ, List.replicate_zero, List.cons_append, List.nil_append, List.getElem?_cons_zero, List.getElem?_cons_succ, List.set_cons_zero, List.set_cons_succ, Nat.reduceSub, Nat.reduceAdd, List.length_cons, List.length_nil, List.any_cons, List.any_nil, Bool.or_false, Bool.or_true, Bool.not_true, Bool.not_false, Nat.reduceLeDiff, Bool.false_or, Bool.true_or, DL.trim_eq, DL.sFor_k, DL.kFor_0, DL.cSrc_k, DL.kSrc_0, DL.cApp_k, DL.kSrcA_0, DL.srcD_t, DL.srcD_f, DL.eqD_ii, DL.neD_ii, DL.ix_t0, DL.ix_t1]
theorem made_bad1 {a b : Int} (s : Sto) (h : a < 0) : F__law_made [.int a, .int b, .bl true] s = .ok (.tup [.bl false, .tup [.tup [.int a, .int 1], .bl true]]) s := by
  simp only [F__law_made, B__law_made, DL.kSeq_0, DL.kSeq_1, DL.kSeq_2, DL.kSeq_3, DL.kSeq_4, DL.sSeq_k, DL.sSkip_k, DL.sBreak_k, DL.sCont_k, DL.sRetN_k, DL.kExpr_0, DL.kExpr_1, DL.sExpr_k, DL.kRet_0, DL.kRet_1, DL.sRet_k, DL.kIf_0, DL.kIf_1, DL.kIf_2, DL.sIf_k, DL.kAsg2_0, DL.kAsg_0, DL.kAsg_1, DL.sAsg_k, DL.sSet_k, DL.gN_k, DL.gsN_k, DL.kG_0, DL.gsC_k, DL.gT_k, DL.kPut4_0, DL.kPut3_0, DL.kPut3_1, DL.kPut2_0, DL.kPut2_1, DL.kPut_0, DL.kPut_1, DL.sPut_k, DL.sPar_k, DL.kVar_0, DL.eVar_k, DL.eC_k, DL.kUn_0, DL.kUn_1, DL.eUn_k, DL.eIsi_k, DL.kBin2_0, DL.kBin2_1, DL.kBin_0, DL.kBin_1, DL.eBin_k, DL.aNil_k, DL.kCons2_0, DL.kCons2_1, DL.kCons_0, DL.kCons_1, DL.aCons_k, DL.kApp_0, DL.kApp_1, DL.eApp_k, DL.kMt2_0, DL.kMt2_1, DL.kMt1_0, DL.kMt_0, DL.kMt_1, DL.eMt_k, DL.kTru_0, DL.kTru_1, DL.tTru_k, DL.kAnd_0, DL.kAnd_1, DL.kAnd_2, DL.tAndF_k, DL.kOr_0, DL.kOr_1, DL.kOr_2, DL.tOrF_k, DL.kNot_0, DL.kNot_1, DL.kNot_2, DL.tNotF_k, DL.kEIf_0, DL.kEIf_1, DL.kEIf_2, DL.eIf_k, DL.kEAnd2_0, DL.kEAnd2_1, DL.kEAnd2_2, DL.kEAnd_0, DL.kEAnd_1, DL.eAnd_k, DL.kEOr2_0, DL.kEOr2_1, DL.kEOr2_2, DL.kEOr_0, DL.kEOr_1, DL.eOr_k, DL.kENot2_0, DL.kENot2_1, DL.kENot2_2, DL.kENot_0, DL.kENot_1, DL.eNot_k, DL.kSl3_0, DL.kSl3_1, DL.kSl2_0, DL.kSl2_1, DL.kSl_0, DL.kSl_1, DL.eSl_k, DL.oNone_k, DL.kOS_0, DL.kOS_1, DL.oSome_k, DL.kKw2_0, DL.kKw2_1, DL.kKw_0, DL.kKw_1, DL.eKw_k, DL.truD_bl, DL.blD_bl, DL.addD_i, DL.subD_i, DL.ltI_i, DL.leI_i, DL.gtI_i, DL.geI_i, DL.negD_i, DL.intD_i, DL.intD_b, DL.max2D_i, DL.min2D_i, DL.gcdD_i, DL.lenD_t, DL.lenD_f, DL.isD_nn, DL.isD_in, DL.isD_tn, DL.isD_bn, DL.isD_sn, DL.isD_ib, DL.isD_tb, DL.isD_bb, DL.isD_sb, DL.isD_nb, DL.isnD_bb, DL.isi_i, DL.isi_b, DL.isi_t, DL.isi_s, DL.isi_n, DL.isTy_ii, DL.isTy_bi, DL.isTy_ib, DL.isTy_bb, DL.isTy_tt, DL.isTy_it, DL.isTy_bt, DL.isTy_ti, DL.isTy_is, DL.isTy_bs, DL.isTy_ss, DL.isTy_st, DL.isTy_nt, DL.isTy_ns, DL.isTy_ni, DL.isTy_ts, DL.isTy_si, DL.isTy_tb, DL.mulD_i, DL.modD_i, DL.fdivD_i, DL.powD_i, DL.tupD_k, DL.lstD_k, DL.fnD_k, DL.endR_rt, DL.endR_nx, DL.endR_ex, List.map_cons, List.map_nil, List.replicate_succ, List.replicate_zero, List.cons_append, List.nil_append, List.getElem?_cons_zero, List.getElem?_cons_succ, List.set_cons_zero, List.set_cons_succ, Nat.reduceSub, Nat.reduceAdd, List.length_cons, List.length_nil, List.any_cons, List.any_nil, Bool.or_false, Bool.or_true, Bool.not_true, Bool.not_false, Nat.reduceLeDiff, Bool.false_or, Bool.true_or, DL.trim_eq, DL.sFor_k, DL.kFor_0, DL.cSrc_k, DL.kSrc_0, DL.cApp_k, DL.kSrcA_0, DL.srcD_t, DL.srcD_f, DL.eqD_ii, DL.neD_ii, DL.ix_t0, DL.ix_t1]
  unfold S__law_made_0
  rw [try_ex (e := ⟨"InvalidMoment", [("value", .tup [.int a, .int 1])]⟩) (ρ1 := [.d (.int a), .d (.int b), .d (.bl true), .un, .un]) (s1 := s) (by simp only [DL.kSeq_0, DL.kSeq_1, DL.kSeq_2, DL.kSeq_3, DL.kSeq_4, DL.sSeq_k, DL.sSkip_k, DL.sBreak_k, DL.sCont_k, DL.sRetN_k, DL.kExpr_0, DL.kExpr_1, DL.sExpr_k, DL.kRet_0, DL.kRet_1, DL.sRet_k, DL.kIf_0, DL.kIf_1, DL.kIf_2, DL.sIf_k, DL.kAsg2_0, DL.kAsg_0, DL.kAsg_1, DL.sAsg_k, DL.sSet_k, DL.gN_k, DL.gsN_k, DL.kG_0, DL.gsC_k, DL.gT_k, DL.kPut4_0, DL.kPut3_0, DL.kPut3_1, DL.kPut2_0, DL.kPut2_1, DL.kPut_0, DL.kPut_1, DL.sPut_k, DL.sPar_k, DL.kVar_0, DL.eVar_k, DL.eC_k, DL.kUn_0, DL.kUn_1, DL.eUn_k, DL.eIsi_k, DL.kBin2_0, DL.kBin2_1, DL.kBin_0, DL.kBin_1, DL.eBin_k, DL.aNil_k, DL.kCons2_0, DL.kCons2_1, DL.kCons_0, DL.kCons_1, DL.aCons_k, DL.kApp_0, DL.kApp_1, DL.eApp_k, DL.kMt2_0, DL.kMt2_1, DL.kMt1_0, DL.kMt_0, DL.kMt_1, DL.eMt_k, DL.kTru_0, DL.kTru_1, DL.tTru_k, DL.kAnd_0, DL.kAnd_1, DL.kAnd_2, DL.tAndF_k, DL.kOr_0, DL.kOr_1, DL.kOr_2, DL.tOrF_k, DL.kNot_0, DL.kNot_1, DL.kNot_2, DL.tNotF_k, DL.kEIf_0, DL.kEIf_1, DL.kEIf_2, DL.eIf_k, DL.kEAnd2_0, DL.kEAnd2_1, DL.kEAnd2_2, DL.kEAnd_0, DL.kEAnd_1, DL.eAnd_k, DL.kEOr2_0, DL.kEOr2_1, DL.kEOr2_2, DL.kEOr_0, DL.kEOr_1, DL.eOr_k, DL.kENot2_0, DL.kENot2_1, DL.kENot2_2, DL.kENot_0, DL.kENot_1, DL.eNot_k, DL.kSl3_0, DL.kSl3_1, DL.kSl2_0, DL.kSl2_1, DL.kSl_0, DL.kSl_1, DL.eSl_k, DL.oNone_k, DL.kOS_0, DL.kOS_1, DL.oSome_k, DL.kKw2_0, DL.kKw2_1, DL.kKw_0, DL.kKw_1, DL.eKw_k, DL.truD_bl, DL.blD_bl, DL.addD_i, DL.subD_i, DL.ltI_i, DL.leI_i, DL.gtI_i, DL.geI_i, DL.negD_i, DL.intD_i, DL.intD_b, DL.max2D_i, DL.min2D_i, DL.gcdD_i, DL.lenD_t, DL.lenD_f, DL.isD_nn, DL.isD_in, DL.isD_tn, DL.isD_bn, DL.isD_sn, DL.isD_ib, DL.isD_tb, DL.isD_bb, DL.isD_sb, DL.isD_nb, DL.isnD_bb, DL.isi_i, DL.isi_b, DL.isi_t, DL.isi_s, DL.isi_n, DL.isTy_ii, DL.isTy_bi, DL.isTy_ib, DL.isTy_bb, DL.isTy_tt, DL.isTy_it, DL.isTy_bt, DL.isTy_ti, DL.isTy_is, DL.isTy_bs, DL.isTy_ss, DL.isTy_st, DL.isTy_nt, DL.isTy_ns, DL.isTy_ni, DL.isTy_ts, DL.isTy_si, DL.isTy_tb, DL.mulD_i, DL.modD_i, DL.fdivD_i, DL.powD_i, DL.tupD_k, DL.lstD_k, DL.fnD_k, DL.endR_rt, DL.endR_nx, DL.endR_ex, List.map_cons, List.map_nil, List.replicate_succ, List.replicate_zero, List.cons_append, List.nil_append, List.getElem?_cons_zero, List.getElem?_cons_succ, List.set_cons_zero, List.set_cons_succ, Nat.reduceSub, Nat.reduceAdd, List.length_cons, List.length_nil, List.any_cons, List.any_nil, Bool.or_false, Bool.or_true, Bool.not_true, Bool.not_false, Nat.reduceLeDiff, Bool.false_or, Bool.true_or, DL.trim_eq, DL.sFor_k, DL.kFor_0, DL.cSrc_k, DL.kSrc_0, DL.cApp_k, DL.kSrcA_0, DL.srcD_t, DL.srcD_f, DL.eqD_ii, DL.neD_ii, DL.ix_t0, DL.ix_t1, G_moment_1, moment_bad s (b := 1) (.inl h)]) (by dsimp only; decide +kernel)]
  simp only [List.set_cons_succ, List.set_cons_zero]
  rw [made_end]
  simp only [DL.kSeq_0, DL.kSeq_1, DL.kSeq_2, DL.kSeq_3, DL.kSeq_4, DL.sSeq_k, DL.sSkip_k, DL.sBreak_k, DL.sCont_k, DL.sRetN_k, DL.kExpr_0, DL.kExpr_1, DL.sExpr_k, DL.kRet_0, DL.kRet_1, DL.sRet_k, DL.kIf_0, DL.kIf_1, DL.kIf_2, DL.sIf_k, DL.kAsg2_0, DL.kAsg_0, DL.kAsg_1, DL.sAsg_k, DL.sSet_k, DL.gN_k, DL.gsN_k, DL.kG_0, DL.gsC_k, DL.gT_k, DL.kPut4_0, DL.kPut3_0, DL.kPut3_1, DL.kPut2_0, DL.kPut2_1, DL.kPut_0, DL.kPut_1, DL.sPut_k, DL.sPar_k, DL.kVar_0, DL.eVar_k, DL.eC_k, DL.kUn_0, DL.kUn_1, DL.eUn_k, DL.eIsi_k, DL.kBin2_0, DL.kBin2_1, DL.kBin_0, DL.kBin_1, DL.eBin_k, DL.aNil_k, DL.kCons2_0, DL.kCons2_1, DL.kCons_0, DL.kCons_1, DL.aCons_k, DL.kApp_0, DL.kApp_1, DL.eApp_k, DL.kMt2_0, DL.kMt2_1, DL.kMt1_0, DL.kMt_0, DL.kMt_1, DL.eMt_k, DL.kTru_0, DL.kTru_1, DL.tTru_k, DL.kAnd_0, DL.kAnd_1, DL.kAnd_2, DL.tAndF_k, DL.kOr_0, DL.kOr_1, DL.kOr_2, DL.tOrF_k, DL.kNot_0, DL.kNot_1, DL.kNot_2, DL.tNotF_k, DL.kEIf_0, DL.kEIf_1, DL.kEIf_2, DL.eIf_k, DL.kEAnd2_0, DL.kEAnd2_1, DL.kEAnd2_2, DL.kEAnd_0, DL.kEAnd_1, DL.eAnd_k, DL.kEOr2_0, DL.kEOr2_1, DL.kEOr2_2, DL.kEOr_0, DL.kEOr_1, DL.eOr_k, DL.kENot2_0, DL.kENot2_1, DL.kENot2_2, DL.kENot_0, DL.kENot_1, DL.eNot_k, DL.kSl3_0, DL.kSl3_1, DL.kSl2_0, DL.kSl2_1, DL.kSl_0, DL.kSl_1, DL.eSl_k, DL.oNone_k, DL.kOS_0, DL.kOS_1, DL.oSome_k, DL.kKw2_0, DL.kKw2_1, DL.kKw_0, DL.kKw_1, DL.eKw_k, DL.truD_bl, DL.blD_bl, DL.addD_i, DL.subD_i, DL.ltI_i, DL.leI_i, DL.gtI_i, DL.geI_i, DL.negD_i, DL.intD_i, DL.intD_b, DL.max2D_i, DL.min2D_i, DL.gcdD_i, DL.lenD_t, DL.lenD_f, DL.isD_nn, DL.isD_in, DL.isD_tn, DL.isD_bn, DL.isD_sn, DL.isD_ib, DL.isD_tb, DL.isD_bb, DL.isD_sb, DL.isD_nb, DL.isnD_bb, DL.isi_i, DL.isi_b, DL.isi_t, DL.isi_s, DL.isi_n, DL.isTy_ii, DL.isTy_bi, DL.isTy_ib, DL.isTy_bb, DL.isTy_tt, DL.isTy_it, DL.isTy_bt, DL.isTy_ti, DL.isTy_is, DL.isTy_bs, DL.isTy_ss, DL.isTy_st, DL.isTy_nt, DL.isTy_ns, DL.isTy_ni, DL.isTy_ts, DL.isTy_si, DL.isTy_tb, DL.mulD_i, DL.modD_i, DL.fdivD_i, DL.powD_i, DL.tupD_k, DL.lstD_k, DL.fnD_k, DL.endR_rt, DL.endR_nx, DL.endR_ex, List.map_cons, List.map_nil, List.replicate_succ, List.replicate_zero, List.cons_append, List.nil_append, List.getElem?_cons_zero, List.getElem?_cons_succ, List.set_cons_zero, List.set_cons_succ, Nat.reduceSub, Nat.reduceAdd, List.length_cons, List.length_nil, List.any_cons, List.any_nil, Bool.or_false, Bool.or_true, Bool.not_true, Bool.not_false, Nat.reduceLeDiff, Bool.false_or, Bool.true_or, DL.trim_eq, DL.sFor_k, DL.kFor_0, DL.cSrc_k, DL.kSrc_0, DL.cApp_k, DL.kSrcA_0, DL.srcD_t, DL.srcD_f, DL.eqD_ii, DL.neD_ii, DL.ix_t0, DL.ix_t1]
theorem rest_ok {f g : Int × Int} (F : Mo f) (G : Mo g) (s : Sto) (h : 0 ≤ dif f g) : F__law_rest [mo f, mo g] s = .ok (.tup [.bl true, loD (dif f g) (f.2 * g.2)]) s := by
  simp only [F__law_rest, B__law_rest, DL.kSeq_0, DL.kSeq_1, DL.kSeq_2, DL.kSeq_3, DL.kSeq_4, DL.sSeq_k, DL.sSkip_k, DL.sBreak_k, DL.sCont_k, DL.sRetN_k, DL.kExpr_0, DL.kExpr_1, DL.sExpr_k, DL.kRet_0, DL.kRet_1, DL.sRet_k, DL.kIf_0, DL.kIf_1, DL.kIf_2, DL.sIf_k, DL.kAsg2_0, DL.kAsg_0, DL.kAsg_1, DL.sAsg_k, DL.sSet_k, DL.gN_k, DL.gsN_k, DL.kG_0, DL.gsC_k, DL.gT_k, DL.kPut4_0, DL.kPut3_0, DL.kPut3_1, DL.kPut2_0, DL.kPut2_1, DL.kPut_0, DL.kPut_1, DL.sPut_k, DL.sPar_k, DL.kVar_0, DL.eVar_k, DL.eC_k, DL.kUn_0, DL.kUn_1, DL.eUn_k, DL.eIsi_k, DL.kBin2_0, DL.kBin2_1, DL.kBin_0, DL.kBin_1, DL.eBin_k, DL.aNil_k, DL.kCons2_0, DL.kCons2_1, DL.kCons_0, DL.kCons_1, DL.aCons_k, DL.kApp_0, DL.kApp_1, DL.eApp_k, DL.kMt2_0, DL.kMt2_1, DL.kMt1_0, DL.kMt_0, DL.kMt_1, DL.eMt_k, DL.kTru_0, DL.kTru_1, DL.tTru_k, DL.kAnd_0, DL.kAnd_1, DL.kAnd_2, DL.tAndF_k, DL.kOr_0, DL.kOr_1, DL.kOr_2, DL.tOrF_k, DL.kNot_0, DL.kNot_1, DL.kNot_2, DL.tNotF_k, DL.kEIf_0, DL.kEIf_1, DL.kEIf_2, DL.eIf_k, DL.kEAnd2_0, DL.kEAnd2_1, DL.kEAnd2_2, DL.kEAnd_0, DL.kEAnd_1, DL.eAnd_k, DL.kEOr2_0, DL.kEOr2_1, DL.kEOr2_2, DL.kEOr_0, DL.kEOr_1, DL.eOr_k, DL.kENot2_0, DL.kENot2_1, DL.kENot2_2, DL.kENot_0, DL.kENot_1, DL.eNot_k, DL.kSl3_0, DL.kSl3_1, DL.kSl2_0, DL.kSl2_1, DL.kSl_0, DL.kSl_1, DL.eSl_k, DL.oNone_k, DL.kOS_0, DL.kOS_1, DL.oSome_k, DL.kKw2_0, DL.kKw2_1, DL.kKw_0, DL.kKw_1, DL.eKw_k, DL.truD_bl, DL.blD_bl, DL.addD_i, DL.subD_i, DL.ltI_i, DL.leI_i, DL.gtI_i, DL.geI_i, DL.negD_i, DL.intD_i, DL.intD_b, DL.max2D_i, DL.min2D_i, DL.gcdD_i, DL.lenD_t, DL.lenD_f, DL.isD_nn, DL.isD_in, DL.isD_tn, DL.isD_bn, DL.isD_sn, DL.isD_ib, DL.isD_tb, DL.isD_bb, DL.isD_sb, DL.isD_nb, DL.isnD_bb, DL.isi_i, DL.isi_b, DL.isi_t, DL.isi_s, DL.isi_n, DL.isTy_ii, DL.isTy_bi, DL.isTy_ib, DL.isTy_bb, DL.isTy_tt, DL.isTy_it, DL.isTy_bt, DL.isTy_ti, DL.isTy_is, DL.isTy_bs, DL.isTy_ss, DL.isTy_st, DL.isTy_nt, DL.isTy_ns, DL.isTy_ni, DL.isTy_ts, DL.isTy_si, DL.isTy_tb, DL.mulD_i, DL.modD_i, DL.fdivD_i, DL.powD_i, DL.tupD_k, DL.lstD_k, DL.fnD_k, DL.endR_rt, DL.endR_nx, DL.endR_ex, List.map_cons, List.map_nil, List.replicate_succ, List.replicate_zero, List.cons_append, List.nil_append, List.getElem?_cons_zero, List.getElem?_cons_succ, List.set_cons_zero, List.set_cons_succ, Nat.reduceSub, Nat.reduceAdd, List.length_cons, List.length_nil, List.any_cons, List.any_nil, Bool.or_false, Bool.or_true, Bool.not_true, Bool.not_false, Nat.reduceLeDiff, Bool.false_or, Bool.true_or, DL.trim_eq, DL.sFor_k, DL.kFor_0, DL.cSrc_k, DL.kSrc_0, DL.cApp_k, DL.kSrcA_0, DL.srcD_t, DL.srcD_f, DL.eqD_ii, DL.neD_ii, DL.ix_t0, DL.ix_t1]
  unfold S__law_rest_0
  rw [try_rt (d := .tup [.bl true, loD (dif f g) (f.2 * g.2)]) (s1 := s) (by simp only [DL.kSeq_0, DL.kSeq_1, DL.kSeq_2, DL.kSeq_3, DL.kSeq_4, DL.sSeq_k, DL.sSkip_k, DL.sBreak_k, DL.sCont_k, DL.sRetN_k, DL.kExpr_0, DL.kExpr_1, DL.sExpr_k, DL.kRet_0, DL.kRet_1, DL.sRet_k, DL.kIf_0, DL.kIf_1, DL.kIf_2, DL.sIf_k, DL.kAsg2_0, DL.kAsg_0, DL.kAsg_1, DL.sAsg_k, DL.sSet_k, DL.gN_k, DL.gsN_k, DL.kG_0, DL.gsC_k, DL.gT_k, DL.kPut4_0, DL.kPut3_0, DL.kPut3_1, DL.kPut2_0, DL.kPut2_1, DL.kPut_0, DL.kPut_1, DL.sPut_k, DL.sPar_k, DL.kVar_0, DL.eVar_k, DL.eC_k, DL.kUn_0, DL.kUn_1, DL.eUn_k, DL.eIsi_k, DL.kBin2_0, DL.kBin2_1, DL.kBin_0, DL.kBin_1, DL.eBin_k, DL.aNil_k, DL.kCons2_0, DL.kCons2_1, DL.kCons_0, DL.kCons_1, DL.aCons_k, DL.kApp_0, DL.kApp_1, DL.eApp_k, DL.kMt2_0, DL.kMt2_1, DL.kMt1_0, DL.kMt_0, DL.kMt_1, DL.eMt_k, DL.kTru_0, DL.kTru_1, DL.tTru_k, DL.kAnd_0, DL.kAnd_1, DL.kAnd_2, DL.tAndF_k, DL.kOr_0, DL.kOr_1, DL.kOr_2, DL.tOrF_k, DL.kNot_0, DL.kNot_1, DL.kNot_2, DL.tNotF_k, DL.kEIf_0, DL.kEIf_1, DL.kEIf_2, DL.eIf_k, DL.kEAnd2_0, DL.kEAnd2_1, DL.kEAnd2_2, DL.kEAnd_0, DL.kEAnd_1, DL.eAnd_k, DL.kEOr2_0, DL.kEOr2_1, DL.kEOr2_2, DL.kEOr_0, DL.kEOr_1, DL.eOr_k, DL.kENot2_0, DL.kENot2_1, DL.kENot2_2, DL.kENot_0, DL.kENot_1, DL.eNot_k, DL.kSl3_0, DL.kSl3_1, DL.kSl2_0, DL.kSl2_1, DL.kSl_0, DL.kSl_1, DL.eSl_k, DL.oNone_k, DL.kOS_0, DL.kOS_1, DL.oSome_k, DL.kKw2_0, DL.kKw2_1, DL.kKw_0, DL.kKw_1, DL.eKw_k, DL.truD_bl, DL.blD_bl, DL.addD_i, DL.subD_i, DL.ltI_i, DL.leI_i, DL.gtI_i, DL.geI_i, DL.negD_i, DL.intD_i, DL.intD_b, DL.max2D_i, DL.min2D_i, DL.gcdD_i, DL.lenD_t, DL.lenD_f, DL.isD_nn, DL.isD_in, DL.isD_tn, DL.isD_bn, DL.isD_sn, DL.isD_ib, DL.isD_tb, DL.isD_bb, DL.isD_sb, DL.isD_nb, DL.isnD_bb, DL.isi_i, DL.isi_b, DL.isi_t, DL.isi_s, DL.isi_n, DL.isTy_ii, DL.isTy_bi, DL.isTy_ib, DL.isTy_bb, DL.isTy_tt, DL.isTy_it, DL.isTy_bt, DL.isTy_ti, DL.isTy_is, DL.isTy_bs, DL.isTy_ss, DL.isTy_st, DL.isTy_nt, DL.isTy_ns, DL.isTy_ni, DL.isTy_ts, DL.isTy_si, DL.isTy_tb, DL.mulD_i, DL.modD_i, DL.fdivD_i, DL.powD_i, DL.tupD_k, DL.lstD_k, DL.fnD_k, DL.endR_rt, DL.endR_nx, DL.endR_ex, List.map_cons, List.map_nil, List.replicate_succ, List.replicate_zero, List.cons_append, List.nil_append, List.getElem?_cons_zero, List.getElem?_cons_succ, List.set_cons_zero, List.set_cons_succ, Nat.reduceSub, Nat.reduceAdd, List.length_cons, List.length_nil, List.any_cons, List.any_nil, Bool.or_false, Bool.or_true, Bool.not_true, Bool.not_false, Nat.reduceLeDiff, Bool.false_or, Bool.true_or, DL.trim_eq, DL.sFor_k, DL.kFor_0, DL.cSrc_k, DL.kSrc_0, DL.cApp_k, DL.kSrcA_0, DL.srcD_t, DL.srcD_f, DL.eqD_ii, DL.neD_ii, DL.ix_t0, DL.ix_t1, since_ok F G s h])]
  simp only [DL.kSeq_0, DL.kSeq_1, DL.kSeq_2, DL.kSeq_3, DL.kSeq_4, DL.sSeq_k, DL.sSkip_k, DL.sBreak_k, DL.sCont_k, DL.sRetN_k, DL.kExpr_0, DL.kExpr_1, DL.sExpr_k, DL.kRet_0, DL.kRet_1, DL.sRet_k, DL.kIf_0, DL.kIf_1, DL.kIf_2, DL.sIf_k, DL.kAsg2_0, DL.kAsg_0, DL.kAsg_1, DL.sAsg_k, DL.sSet_k, DL.gN_k, DL.gsN_k, DL.kG_0, DL.gsC_k, DL.gT_k, DL.kPut4_0, DL.kPut3_0, DL.kPut3_1, DL.kPut2_0, DL.kPut2_1, DL.kPut_0, DL.kPut_1, DL.sPut_k, DL.sPar_k, DL.kVar_0, DL.eVar_k, DL.eC_k, DL.kUn_0, DL.kUn_1, DL.eUn_k, DL.eIsi_k, DL.kBin2_0, DL.kBin2_1, DL.kBin_0, DL.kBin_1, DL.eBin_k, DL.aNil_k, DL.kCons2_0, DL.kCons2_1, DL.kCons_0, DL.kCons_1, DL.aCons_k, DL.kApp_0, DL.kApp_1, DL.eApp_k, DL.kMt2_0, DL.kMt2_1, DL.kMt1_0, DL.kMt_0, DL.kMt_1, DL.eMt_k, DL.kTru_0, DL.kTru_1, DL.tTru_k, DL.kAnd_0, DL.kAnd_1, DL.kAnd_2, DL.tAndF_k, DL.kOr_0, DL.kOr_1, DL.kOr_2, DL.tOrF_k, DL.kNot_0, DL.kNot_1, DL.kNot_2, DL.tNotF_k, DL.kEIf_0, DL.kEIf_1, DL.kEIf_2, DL.eIf_k, DL.kEAnd2_0, DL.kEAnd2_1, DL.kEAnd2_2, DL.kEAnd_0, DL.kEAnd_1, DL.eAnd_k, DL.kEOr2_0, DL.kEOr2_1, DL.kEOr2_2, DL.kEOr_0, DL.kEOr_1, DL.eOr_k, DL.kENot2_0, DL.kENot2_1, DL.kENot2_2, DL.kENot_0, DL.kENot_1, DL.eNot_k, DL.kSl3_0, DL.kSl3_1, DL.kSl2_0, DL.kSl2_1, DL.kSl_0, DL.kSl_1, DL.eSl_k, DL.oNone_k, DL.kOS_0, DL.kOS_1, DL.oSome_k, DL.kKw2_0, DL.kKw2_1, DL.kKw_0, DL.kKw_1, DL.eKw_k, DL.truD_bl, DL.blD_bl, DL.addD_i, DL.subD_i, DL.ltI_i, DL.leI_i, DL.gtI_i, DL.geI_i, DL.negD_i, DL.intD_i, DL.intD_b, DL.max2D_i, DL.min2D_i, DL.gcdD_i, DL.lenD_t, DL.lenD_f, DL.isD_nn, DL.isD_in, DL.isD_tn, DL.isD_bn, DL.isD_sn, DL.isD_ib, DL.isD_tb, DL.isD_bb, DL.isD_sb, DL.isD_nb, DL.isnD_bb, DL.isi_i, DL.isi_b, DL.isi_t, DL.isi_s, DL.isi_n, DL.isTy_ii, DL.isTy_bi, DL.isTy_ib, DL.isTy_bb, DL.isTy_tt, DL.isTy_it, DL.isTy_bt, DL.isTy_ti, DL.isTy_is, DL.isTy_bs, DL.isTy_ss, DL.isTy_st, DL.isTy_nt, DL.isTy_ns, DL.isTy_ni, DL.isTy_ts, DL.isTy_si, DL.isTy_tb, DL.mulD_i, DL.modD_i, DL.fdivD_i, DL.powD_i, DL.tupD_k, DL.lstD_k, DL.fnD_k, DL.endR_rt, DL.endR_nx, DL.endR_ex, List.map_cons, List.map_nil, List.replicate_succ, List.replicate_zero, List.cons_append, List.nil_append, List.getElem?_cons_zero, List.getElem?_cons_succ, List.set_cons_zero, List.set_cons_succ, Nat.reduceSub, Nat.reduceAdd, List.length_cons, List.length_nil, List.any_cons, List.any_nil, Bool.or_false, Bool.or_true, Bool.not_true, Bool.not_false, Nat.reduceLeDiff, Bool.false_or, Bool.true_or, DL.trim_eq, DL.sFor_k, DL.kFor_0, DL.cSrc_k, DL.kSrc_0, DL.cApp_k, DL.kSrcA_0, DL.srcD_t, DL.srcD_f, DL.eqD_ii, DL.neD_ii, DL.ix_t0, DL.ix_t1]
theorem rest_bad {f g : Int × Int} (F : Mo f) (G : Mo g) (s : Sto) (h : dif f g < 0) : F__law_rest [mo f, mo g] s = .ok (.tup [.bl false, .tup [mo f, mo g, .bl true]]) s := by
  have k1 : ∀ z : Sl, eIsX 2 is_BellError [.d (mo f), .d (mo g), .exn ⟨"Backwards", [("first", mo f), ("second", mo g)]⟩, z] s = .ok (.bl true) s := fun z => isx_k _ _ _ _ rfl (by dsimp only; decide +kernel)
  have k2 : ∀ z : Sl, eIsX 2 is_ValueError [.d (mo f), .d (mo g), .exn ⟨"Backwards", [("first", mo f), ("second", mo g)]⟩, z] s = .ok (.bl true) s := fun z => isx_k _ _ _ _ rfl (by dsimp only; decide +kernel)
  have k3 : ∀ z : Sl, eIsX 2 is_InvalidMoment [.d (mo f), .d (mo g), .exn ⟨"Backwards", [("first", mo f), ("second", mo g)]⟩, z] s = .ok (.bl false) s := fun z => isx_k _ _ _ _ rfl (by dsimp only; decide +kernel)
  have k4 : ∀ z : Sl, eIsX 2 is_InvalidSpan [.d (mo f), .d (mo g), .exn ⟨"Backwards", [("first", mo f), ("second", mo g)]⟩, z] s = .ok (.bl false) s := fun z => isx_k _ _ _ _ rfl (by dsimp only; decide +kernel)
  have k5 : ∀ z : Sl, eFld 2 "first" [.d (mo f), .d (mo g), .exn ⟨"Backwards", [("first", mo f), ("second", mo g)]⟩, z] s = .ok (mo f) s := fun z => fld_k _ _ _ _ rfl (by simp [List.lookup])
  have ne : (("second" : Str) == "first") = false := by decide +kernel
  have k6 : ∀ z : Sl, eFld 2 "second" [.d (mo f), .d (mo g), .exn ⟨"Backwards", [("first", mo f), ("second", mo g)]⟩, z] s = .ok (mo g) s := fun z => fld_k _ _ _ _ rfl (by simp [List.lookup, ne])
  simp only [F__law_rest, B__law_rest, DL.kSeq_0, DL.kSeq_1, DL.kSeq_2, DL.kSeq_3, DL.kSeq_4, DL.sSeq_k, DL.sSkip_k, DL.sBreak_k, DL.sCont_k, DL.sRetN_k, DL.kExpr_0, DL.kExpr_1, DL.sExpr_k, DL.kRet_0, DL.kRet_1, DL.sRet_k, DL.kIf_0, DL.kIf_1, DL.kIf_2, DL.sIf_k, DL.kAsg2_0, DL.kAsg_0, DL.kAsg_1, DL.sAsg_k, DL.sSet_k, DL.gN_k, DL.gsN_k, DL.kG_0, DL.gsC_k, DL.gT_k, DL.kPut4_0, DL.kPut3_0, DL.kPut3_1, DL.kPut2_0, DL.kPut2_1, DL.kPut_0, DL.kPut_1, DL.sPut_k, DL.sPar_k, DL.kVar_0, DL.eVar_k, DL.eC_k, DL.kUn_0, DL.kUn_1, DL.eUn_k, DL.eIsi_k, DL.kBin2_0, DL.kBin2_1, DL.kBin_0, DL.kBin_1, DL.eBin_k, DL.aNil_k, DL.kCons2_0, DL.kCons2_1, DL.kCons_0, DL.kCons_1, DL.aCons_k, DL.kApp_0, DL.kApp_1, DL.eApp_k, DL.kMt2_0, DL.kMt2_1, DL.kMt1_0, DL.kMt_0, DL.kMt_1, DL.eMt_k, DL.kTru_0, DL.kTru_1, DL.tTru_k, DL.kAnd_0, DL.kAnd_1, DL.kAnd_2, DL.tAndF_k, DL.kOr_0, DL.kOr_1, DL.kOr_2, DL.tOrF_k, DL.kNot_0, DL.kNot_1, DL.kNot_2, DL.tNotF_k, DL.kEIf_0, DL.kEIf_1, DL.kEIf_2, DL.eIf_k, DL.kEAnd2_0, DL.kEAnd2_1, DL.kEAnd2_2, DL.kEAnd_0, DL.kEAnd_1, DL.eAnd_k, DL.kEOr2_0, DL.kEOr2_1, DL.kEOr2_2, DL.kEOr_0, DL.kEOr_1, DL.eOr_k, DL.kENot2_0, DL.kENot2_1, DL.kENot2_2, DL.kENot_0, DL.kENot_1, DL.eNot_k, DL.kSl3_0, DL.kSl3_1, DL.kSl2_0, DL.kSl2_1, DL.kSl_0, DL.kSl_1, DL.eSl_k, DL.oNone_k, DL.kOS_0, DL.kOS_1, DL.oSome_k, DL.kKw2_0, DL.kKw2_1, DL.kKw_0, DL.kKw_1, DL.eKw_k, DL.truD_bl, DL.blD_bl, DL.addD_i, DL.subD_i, DL.ltI_i, DL.leI_i, DL.gtI_i, DL.geI_i, DL.negD_i, DL.intD_i, DL.intD_b, DL.max2D_i, DL.min2D_i, DL.gcdD_i, DL.lenD_t, DL.lenD_f, DL.isD_nn, DL.isD_in, DL.isD_tn, DL.isD_bn, DL.isD_sn, DL.isD_ib, DL.isD_tb, DL.isD_bb, DL.isD_sb, DL.isD_nb, DL.isnD_bb, DL.isi_i, DL.isi_b, DL.isi_t, DL.isi_s, DL.isi_n, DL.isTy_ii, DL.isTy_bi, DL.isTy_ib, DL.isTy_bb, DL.isTy_tt, DL.isTy_it, DL.isTy_bt, DL.isTy_ti, DL.isTy_is, DL.isTy_bs, DL.isTy_ss, DL.isTy_st, DL.isTy_nt, DL.isTy_ns, DL.isTy_ni, DL.isTy_ts, DL.isTy_si, DL.isTy_tb, DL.mulD_i, DL.modD_i, DL.fdivD_i, DL.powD_i, DL.tupD_k, DL.lstD_k, DL.fnD_k, DL.endR_rt, DL.endR_nx, DL.endR_ex, List.map_cons, List.map_nil, List.replicate_succ, List.replicate_zero, List.cons_append, List.nil_append, List.getElem?_cons_zero, List.getElem?_cons_succ, List.set_cons_zero, List.set_cons_succ, Nat.reduceSub, Nat.reduceAdd, List.length_cons, List.length_nil, List.any_cons, List.any_nil, Bool.or_false, Bool.or_true, Bool.not_true, Bool.not_false, Nat.reduceLeDiff, Bool.false_or, Bool.true_or, DL.trim_eq, DL.sFor_k, DL.kFor_0, DL.cSrc_k, DL.kSrc_0, DL.cApp_k, DL.kSrcA_0, DL.srcD_t, DL.srcD_f, DL.eqD_ii, DL.neD_ii, DL.ix_t0, DL.ix_t1]
  unfold S__law_rest_0
  rw [try_ex (e := ⟨"Backwards", [("first", mo f), ("second", mo g)]⟩) (ρ1 := [.d (mo f), .d (mo g), .un, .un]) (s1 := s) (by simp only [DL.kSeq_0, DL.kSeq_1, DL.kSeq_2, DL.kSeq_3, DL.kSeq_4, DL.sSeq_k, DL.sSkip_k, DL.sBreak_k, DL.sCont_k, DL.sRetN_k, DL.kExpr_0, DL.kExpr_1, DL.sExpr_k, DL.kRet_0, DL.kRet_1, DL.sRet_k, DL.kIf_0, DL.kIf_1, DL.kIf_2, DL.sIf_k, DL.kAsg2_0, DL.kAsg_0, DL.kAsg_1, DL.sAsg_k, DL.sSet_k, DL.gN_k, DL.gsN_k, DL.kG_0, DL.gsC_k, DL.gT_k, DL.kPut4_0, DL.kPut3_0, DL.kPut3_1, DL.kPut2_0, DL.kPut2_1, DL.kPut_0, DL.kPut_1, DL.sPut_k, DL.sPar_k, DL.kVar_0, DL.eVar_k, DL.eC_k, DL.kUn_0, DL.kUn_1, DL.eUn_k, DL.eIsi_k, DL.kBin2_0, DL.kBin2_1, DL.kBin_0, DL.kBin_1, DL.eBin_k, DL.aNil_k, DL.kCons2_0, DL.kCons2_1, DL.kCons_0, DL.kCons_1, DL.aCons_k, DL.kApp_0, DL.kApp_1, DL.eApp_k, DL.kMt2_0, DL.kMt2_1, DL.kMt1_0, DL.kMt_0, DL.kMt_1, DL.eMt_k, DL.kTru_0, DL.kTru_1, DL.tTru_k, DL.kAnd_0, DL.kAnd_1, DL.kAnd_2, DL.tAndF_k, DL.kOr_0, DL.kOr_1, DL.kOr_2, DL.tOrF_k, DL.kNot_0, DL.kNot_1, DL.kNot_2, DL.tNotF_k, DL.kEIf_0, DL.kEIf_1, DL.kEIf_2, DL.eIf_k, DL.kEAnd2_0, DL.kEAnd2_1, DL.kEAnd2_2, DL.kEAnd_0, DL.kEAnd_1, DL.eAnd_k, DL.kEOr2_0, DL.kEOr2_1, DL.kEOr2_2, DL.kEOr_0, DL.kEOr_1, DL.eOr_k, DL.kENot2_0, DL.kENot2_1, DL.kENot2_2, DL.kENot_0, DL.kENot_1, DL.eNot_k, DL.kSl3_0, DL.kSl3_1, DL.kSl2_0, DL.kSl2_1, DL.kSl_0, DL.kSl_1, DL.eSl_k, DL.oNone_k, DL.kOS_0, DL.kOS_1, DL.oSome_k, DL.kKw2_0, DL.kKw2_1, DL.kKw_0, DL.kKw_1, DL.eKw_k, DL.truD_bl, DL.blD_bl, DL.addD_i, DL.subD_i, DL.ltI_i, DL.leI_i, DL.gtI_i, DL.geI_i, DL.negD_i, DL.intD_i, DL.intD_b, DL.max2D_i, DL.min2D_i, DL.gcdD_i, DL.lenD_t, DL.lenD_f, DL.isD_nn, DL.isD_in, DL.isD_tn, DL.isD_bn, DL.isD_sn, DL.isD_ib, DL.isD_tb, DL.isD_bb, DL.isD_sb, DL.isD_nb, DL.isnD_bb, DL.isi_i, DL.isi_b, DL.isi_t, DL.isi_s, DL.isi_n, DL.isTy_ii, DL.isTy_bi, DL.isTy_ib, DL.isTy_bb, DL.isTy_tt, DL.isTy_it, DL.isTy_bt, DL.isTy_ti, DL.isTy_is, DL.isTy_bs, DL.isTy_ss, DL.isTy_st, DL.isTy_nt, DL.isTy_ns, DL.isTy_ni, DL.isTy_ts, DL.isTy_si, DL.isTy_tb, DL.mulD_i, DL.modD_i, DL.fdivD_i, DL.powD_i, DL.tupD_k, DL.lstD_k, DL.fnD_k, DL.endR_rt, DL.endR_nx, DL.endR_ex, List.map_cons, List.map_nil, List.replicate_succ, List.replicate_zero, List.cons_append, List.nil_append, List.getElem?_cons_zero, List.getElem?_cons_succ, List.set_cons_zero, List.set_cons_succ, Nat.reduceSub, Nat.reduceAdd, List.length_cons, List.length_nil, List.any_cons, List.any_nil, Bool.or_false, Bool.or_true, Bool.not_true, Bool.not_false, Nat.reduceLeDiff, Bool.false_or, Bool.true_or, DL.trim_eq, DL.sFor_k, DL.kFor_0, DL.cSrc_k, DL.kSrc_0, DL.cApp_k, DL.kSrcA_0, DL.srcD_t, DL.srcD_f, DL.eqD_ii, DL.neD_ii, DL.ix_t0, DL.ix_t1, since_bad F G s h]) (by dsimp only; decide +kernel)]
  simp only [List.set_cons_succ, List.set_cons_zero]
  simp only [DL.kSeq_0, DL.kSeq_1, DL.kSeq_2, DL.kSeq_3, DL.kSeq_4, DL.sSeq_k, DL.sSkip_k, DL.sBreak_k, DL.sCont_k, DL.sRetN_k, DL.kExpr_0, DL.kExpr_1, DL.sExpr_k, DL.kRet_0, DL.kRet_1, DL.sRet_k, DL.kIf_0, DL.kIf_1, DL.kIf_2, DL.sIf_k, DL.kAsg2_0, DL.kAsg_0, DL.kAsg_1, DL.sAsg_k, DL.sSet_k, DL.gN_k, DL.gsN_k, DL.kG_0, DL.gsC_k, DL.gT_k, DL.kPut4_0, DL.kPut3_0, DL.kPut3_1, DL.kPut2_0, DL.kPut2_1, DL.kPut_0, DL.kPut_1, DL.sPut_k, DL.sPar_k, DL.kVar_0, DL.eVar_k, DL.eC_k, DL.kUn_0, DL.kUn_1, DL.eUn_k, DL.eIsi_k, DL.kBin2_0, DL.kBin2_1, DL.kBin_0, DL.kBin_1, DL.eBin_k, DL.aNil_k, DL.kCons2_0, DL.kCons2_1, DL.kCons_0, DL.kCons_1, DL.aCons_k, DL.kApp_0, DL.kApp_1, DL.eApp_k, DL.kMt2_0, DL.kMt2_1, DL.kMt1_0, DL.kMt_0, DL.kMt_1, DL.eMt_k, DL.kTru_0, DL.kTru_1, DL.tTru_k, DL.kAnd_0, DL.kAnd_1, DL.kAnd_2, DL.tAndF_k, DL.kOr_0, DL.kOr_1, DL.kOr_2, DL.tOrF_k, DL.kNot_0, DL.kNot_1, DL.kNot_2, DL.tNotF_k, DL.kEIf_0, DL.kEIf_1, DL.kEIf_2, DL.eIf_k, DL.kEAnd2_0, DL.kEAnd2_1, DL.kEAnd2_2, DL.kEAnd_0, DL.kEAnd_1, DL.eAnd_k, DL.kEOr2_0, DL.kEOr2_1, DL.kEOr2_2, DL.kEOr_0, DL.kEOr_1, DL.eOr_k, DL.kENot2_0, DL.kENot2_1, DL.kENot2_2, DL.kENot_0, DL.kENot_1, DL.eNot_k, DL.kSl3_0, DL.kSl3_1, DL.kSl2_0, DL.kSl2_1, DL.kSl_0, DL.kSl_1, DL.eSl_k, DL.oNone_k, DL.kOS_0, DL.kOS_1, DL.oSome_k, DL.kKw2_0, DL.kKw2_1, DL.kKw_0, DL.kKw_1, DL.eKw_k, DL.truD_bl, DL.blD_bl, DL.addD_i, DL.subD_i, DL.ltI_i, DL.leI_i, DL.gtI_i, DL.geI_i, DL.negD_i, DL.intD_i, DL.intD_b, DL.max2D_i, DL.min2D_i, DL.gcdD_i, DL.lenD_t, DL.lenD_f, DL.isD_nn, DL.isD_in, DL.isD_tn, DL.isD_bn, DL.isD_sn, DL.isD_ib, DL.isD_tb, DL.isD_bb, DL.isD_sb, DL.isD_nb, DL.isnD_bb, DL.isi_i, DL.isi_b, DL.isi_t, DL.isi_s, DL.isi_n, DL.isTy_ii, DL.isTy_bi, DL.isTy_ib, DL.isTy_bb, DL.isTy_tt, DL.isTy_it, DL.isTy_bt, DL.isTy_ti, DL.isTy_is, DL.isTy_bs, DL.isTy_ss, DL.isTy_st, DL.isTy_nt, DL.isTy_ns, DL.isTy_ni, DL.isTy_ts, DL.isTy_si, DL.isTy_tb, DL.mulD_i, DL.modD_i, DL.fdivD_i, DL.powD_i, DL.tupD_k, DL.lstD_k, DL.fnD_k, DL.endR_rt, DL.endR_nx, DL.endR_ex, List.map_cons, List.map_nil, List.replicate_succ, List.replicate_zero, List.cons_append, List.nil_append, List.getElem?_cons_zero, List.getElem?_cons_succ, List.set_cons_zero, List.set_cons_succ, Nat.reduceSub, Nat.reduceAdd, List.length_cons, List.length_nil, List.any_cons, List.any_nil, Bool.or_false, Bool.or_true, Bool.not_true, Bool.not_false, Nat.reduceLeDiff, Bool.false_or, Bool.true_or, DL.trim_eq, DL.sFor_k, DL.kFor_0, DL.cSrc_k, DL.kSrc_0, DL.cApp_k, DL.kSrcA_0, DL.srcD_t, DL.srcD_f, DL.eqD_ii, DL.neD_ii, DL.ix_t0, DL.ix_t1, k1, k2, k3, k4, k5, k6, endX_rt]

/-! ### the law's own checks -/
theorem starF_0 (F : List D → Sto → R D) (ds : List D) (s : Sto) (h : ds.length ≤ 100000) : starF 0 F ds s = F [.tup ds] s := by
  unfold starF
  rw [if_pos ⟨Nat.zero_le _, h⟩]
  rfl
theorem total_ok {l : Nat} {xs : List (Int × Int)} {s : Sto} (hl : s[l]? = some (.lst (xs.map mo))) (h : ∀ x ∈ xs, Mo x) (hz : xs.length ≤ 5) : F__law_total [.loc l] s = .ok (mo (xs.foldl sumStep (0, 1))) s := by
  have h0 : lenD [.loc l] s = .ok (.int xs.length) s := by simp [lenD, hl]
  have ad := added_ok xs s h (by omega)
  have ga : ∀ ds : List D, ds.length ≤ 5 → G_added ds s = F_added [.tup ds] s := fun ds hd => starF_0 _ _ _ (by omega)
  simp only [F__law_total, B__law_total, DL.kSeq_0, DL.kSeq_1, DL.kSeq_2, DL.kSeq_3, DL.kSeq_4, DL.sSeq_k, DL.sSkip_k, DL.sBreak_k, DL.sCont_k, DL.sRetN_k, DL.kExpr_0, DL.kExpr_1, DL.sExpr_k, DL.kRet_0, DL.kRet_1, DL.sRet_k, DL.kIf_0, DL.kIf_1, DL.kIf_2, DL.sIf_k, DL.kAsg2_0, DL.kAsg_0, DL.kAsg_1, DL.sAsg_k, DL.sSet_k, DL.gN_k, DL.gsN_k, DL.kG_0, DL.gsC_k, DL.gT_k, DL.kPut4_0, DL.kPut3_0, DL.kPut3_1, DL.kPut2_0, DL.kPut2_1, DL.kPut_0, DL.kPut_1, DL.sPut_k, DL.sPar_k, DL.kVar_0, DL.eVar_k, DL.eC_k, DL.kUn_0, DL.kUn_1, DL.eUn_k, DL.eIsi_k, DL.kBin2_0, DL.kBin2_1, DL.kBin_0, DL.kBin_1, DL.eBin_k, DL.aNil_k, DL.kCons2_0, DL.kCons2_1, DL.kCons_0, DL.kCons_1, DL.aCons_k, DL.kApp_0, DL.kApp_1, DL.eApp_k, DL.kMt2_0, DL.kMt2_1, DL.kMt1_0, DL.kMt_0, DL.kMt_1, DL.eMt_k, DL.kTru_0, DL.kTru_1, DL.tTru_k, DL.kAnd_0, DL.kAnd_1, DL.kAnd_2, DL.tAndF_k, DL.kOr_0, DL.kOr_1, DL.kOr_2, DL.tOrF_k, DL.kNot_0, DL.kNot_1, DL.kNot_2, DL.tNotF_k, DL.kEIf_0, DL.kEIf_1, DL.kEIf_2, DL.eIf_k, DL.kEAnd2_0, DL.kEAnd2_1, DL.kEAnd2_2, DL.kEAnd_0, DL.kEAnd_1, DL.eAnd_k, DL.kEOr2_0, DL.kEOr2_1, DL.kEOr2_2, DL.kEOr_0, DL.kEOr_1, DL.eOr_k, DL.kENot2_0, DL.kENot2_1, DL.kENot2_2, DL.kENot_0, DL.kENot_1, DL.eNot_k, DL.kSl3_0, DL.kSl3_1, DL.kSl2_0, DL.kSl2_1, DL.kSl_0, DL.kSl_1, DL.eSl_k, DL.oNone_k, DL.kOS_0, DL.kOS_1, DL.oSome_k, DL.kKw2_0, DL.kKw2_1, DL.kKw_0, DL.kKw_1, DL.eKw_k, DL.truD_bl, DL.blD_bl, DL.addD_i, DL.subD_i, DL.ltI_i, DL.leI_i, DL.gtI_i, DL.geI_i, DL.negD_i, DL.intD_i, DL.intD_b, DL.max2D_i, DL.min2D_i, DL.gcdD_i, DL.lenD_t, DL.lenD_f, DL.isD_nn, DL.isD_in, DL.isD_tn, DL.isD_bn, DL.isD_sn, DL.isD_ib, DL.isD_tb, DL.isD_bb, DL.isD_sb, DL.isD_nb, DL.isnD_bb, DL.isi_i, DL.isi_b, DL.isi_t, DL.isi_s, DL.isi_n, DL.isTy_ii, DL.isTy_bi, DL.isTy_ib, DL.isTy_bb, DL.isTy_tt, DL.isTy_it, DL.isTy_bt, DL.isTy_ti, DL.isTy_is, DL.isTy_bs, DL.isTy_ss, DL.isTy_st, DL.isTy_nt, DL.isTy_ns, DL.isTy_ni, DL.isTy_ts, DL.isTy_si, DL.isTy_tb, DL.mulD_i, DL.modD_i, DL.fdivD_i, DL.powD_i, DL.tupD_k, DL.lstD_k, DL.fnD_k, DL.endR_rt, DL.endR_nx, DL.endR_ex, List.map_cons, List.map_nil, List.replicate_succ, List.replicate_zero, List.cons_append, List.nil_append, List.getElem?_cons_zero, List.getElem?_cons_succ, List.set_cons_zero, List.set_cons_succ, Nat.reduceSub, Nat.reduceAdd, List.length_cons, List.length_nil, List.any_cons, List.any_nil, Bool.or_false, Bool.or_true, Bool.not_true, Bool.not_false, Nat.reduceLeDiff, Bool.false_or, Bool.true_or, DL.trim_eq, DL.sFor_k, DL.kFor_0, DL.cSrc_k, DL.kSrc_0, DL.cApp_k, DL.kSrcA_0, DL.srcD_t, DL.srcD_f, DL.eqD_ii, DL.neD_ii, DL.ix_t0, DL.ix_t1]
  match xs, hl, h0, ad, hz with
  | [], hl, h0, ad, _ =>
    simp only [S__law_total_0, DL.kSeq_0, DL.kSeq_1, DL.kSeq_2, DL.kSeq_3, DL.kSeq_4, DL.sSeq_k, DL.sSkip_k, DL.sBreak_k, DL.sCont_k, DL.sRetN_k, DL.kExpr_0, DL.kExpr_1, DL.sExpr_k, DL.kRet_0, DL.kRet_1, DL.sRet_k, DL.kIf_0, DL.kIf_1, DL.kIf_2, DL.sIf_k, DL.kAsg2_0, DL.kAsg_0, DL.kAsg_1, DL.sAsg_k, DL.sSet_k, DL.gN_k, DL.gsN_k, DL.kG_0, DL.gsC_k, DL.gT_k, DL.kPut4_0, DL.kPut3_0, DL.kPut3_1, DL.kPut2_0, DL.kPut2_1, DL.kPut_0, DL.kPut_1, DL.sPut_k, DL.sPar_k, DL.kVar_0, DL.eVar_k, DL.eC_k, DL.kUn_0, DL.kUn_1, DL.eUn_k, DL.eIsi_k, DL.kBin2_0, DL.kBin2_1, DL.kBin_0, DL.kBin_1, DL.eBin_k, DL.aNil_k, DL.kCons2_0, DL.kCons2_1, DL.kCons_0, DL.kCons_1, DL.aCons_k, DL.kApp_0, DL.kApp_1, DL.eApp_k, DL.kMt2_0, DL.kMt2_1, DL.kMt1_0, DL.kMt_0, DL.kMt_1, DL.eMt_k, DL.kTru_0, DL.kTru_1, DL.tTru_k, DL.kAnd_0, DL.kAnd_1, DL.kAnd_2, DL.tAndF_k, DL.kOr_0, DL.kOr_1, DL.kOr_2, DL.tOrF_k, DL.kNot_0, DL.kNot_1, DL.kNot_2, DL.tNotF_k, DL.kEIf_0, DL.kEIf_1, DL.kEIf_2, DL.eIf_k, DL.kEAnd2_0, DL.kEAnd2_1, DL.kEAnd2_2, DL.kEAnd_0, DL.kEAnd_1, DL.eAnd_k, DL.kEOr2_0, DL.kEOr2_1, DL.kEOr2_2, DL.kEOr_0, DL.kEOr_1, DL.eOr_k, DL.kENot2_0, DL.kENot2_1, DL.kENot2_2, DL.kENot_0, DL.kENot_1, DL.eNot_k, DL.kSl3_0, DL.kSl3_1, DL.kSl2_0, DL.kSl2_1, DL.kSl_0, DL.kSl_1, DL.eSl_k, DL.oNone_k, DL.kOS_0, DL.kOS_1, DL.oSome_k, DL.kKw2_0, DL.kKw2_1, DL.kKw_0, DL.kKw_1, DL.eKw_k, DL.truD_bl, DL.blD_bl, DL.addD_i, DL.subD_i, DL.ltI_i, DL.leI_i, DL.gtI_i, DL.geI_i, DL.negD_i, DL.intD_i, DL.intD_b, DL.max2D_i, DL.min2D_i, DL.gcdD_i, DL.lenD_t, DL.lenD_f, DL.isD_nn, DL.isD_in, DL.isD_tn, DL.isD_bn, DL.isD_sn, DL.isD_ib, DL.isD_tb, DL.isD_bb, DL.isD_sb, DL.isD_nb, DL.isnD_bb, DL.isi_i, DL.isi_b, DL.isi_t, DL.isi_s, DL.isi_n, DL.isTy_ii, DL.isTy_bi, DL.isTy_ib, DL.isTy_bb, DL.isTy_tt, DL.isTy_it, DL.isTy_bt, DL.isTy_ti, DL.isTy_is, DL.isTy_bs, DL.isTy_ss, DL.isTy_st, DL.isTy_nt, DL.isTy_ns, DL.isTy_ni, DL.isTy_ts, DL.isTy_si, DL.isTy_tb, DL.mulD_i, DL.modD_i, DL.fdivD_i, DL.powD_i, DL.tupD_k, DL.lstD_k, DL.fnD_k, DL.endR_rt, DL.endR_nx, DL.endR_ex, List.map_cons, List.map_nil, List.replicate_succ, List.replicate_zero, List.cons_append, List.nil_append, List.getElem?_cons_zero, List.getElem?_cons_succ, List.set_cons_zero, List.set_cons_succ, Nat.reduceSub, Nat.reduceAdd, List.length_cons, List.length_nil, List.any_cons, List.any_nil, Bool.or_false, Bool.or_true, Bool.not_true, Bool.not_false, Nat.reduceLeDiff, Bool.false_or, Bool.true_or, DL.trim_eq, DL.sFor_k, DL.kFor_0, DL.cSrc_k, DL.kSrc_0, DL.cApp_k, DL.kSrcA_0, DL.srcD_t, DL.srcD_f, DL.eqD_ii, DL.neD_ii, DL.ix_t0, DL.ix_t1, h0, List.length_nil, show ((((0 : Nat) : Int)) == 0) = true from rfl, ga [] (by simp)]
    rw [show F_added [.tup []] s = _ from ad]
    simp only [DL.kSeq_0, DL.kSeq_1, DL.kSeq_2, DL.kSeq_3, DL.kSeq_4, DL.sSeq_k, DL.sSkip_k, DL.sBreak_k, DL.sCont_k, DL.sRetN_k, DL.kExpr_0, DL.kExpr_1, DL.sExpr_k, DL.kRet_0, DL.kRet_1, DL.sRet_k, DL.kIf_0, DL.kIf_1, DL.kIf_2, DL.sIf_k, DL.kAsg2_0, DL.kAsg_0, DL.kAsg_1, DL.sAsg_k, DL.sSet_k, DL.gN_k, DL.gsN_k, DL.kG_0, DL.gsC_k, DL.gT_k, DL.kPut4_0, DL.kPut3_0, DL.kPut3_1, DL.kPut2_0, DL.kPut2_1, DL.kPut_0, DL.kPut_1, DL.sPut_k, DL.sPar_k, DL.kVar_0, DL.eVar_k, DL.eC_k, DL.kUn_0, DL.kUn_1, DL.eUn_k, DL.eIsi_k, DL.kBin2_0, DL.kBin2_1, DL.kBin_0, DL.kBin_1, DL.eBin_k, DL.aNil_k, DL.kCons2_0, DL.kCons2_1, DL.kCons_0, DL.kCons_1, DL.aCons_k, DL.kApp_0, DL.kApp_1, DL.eApp_k, DL.kMt2_0, DL.kMt2_1, DL.kMt1_0, DL.kMt_0, DL.kMt_1, DL.eMt_k, DL.kTru_0, DL.kTru_1, DL.tTru_k, DL.kAnd_0, DL.kAnd_1, DL.kAnd_2, DL.tAndF_k, DL.kOr_0, DL.kOr_1, DL.kOr_2, DL.tOrF_k, DL.kNot_0, DL.kNot_1, DL.kNot_2, DL.tNotF_k, DL.kEIf_0, DL.kEIf_1, DL.kEIf_2, DL.eIf_k, DL.kEAnd2_0, DL.kEAnd2_1, DL.kEAnd2_2, DL.kEAnd_0, DL.kEAnd_1, DL.eAnd_k, DL.kEOr2_0, DL.kEOr2_1, DL.kEOr2_2, DL.kEOr_0, DL.kEOr_1, DL.eOr_k, DL.kENot2_0, DL.kENot2_1, DL.kENot2_2, DL.kENot_0, DL.kENot_1, DL.eNot_k, DL.kSl3_0, DL.kSl3_1, DL.kSl2_0, DL.kSl2_1, DL.kSl_0, DL.kSl_1, DL.eSl_k, DL.oNone_k, DL.kOS_0, DL.kOS_1, DL.oSome_k, DL.kKw2_0, DL.kKw2_1, DL.kKw_0, DL.kKw_1, DL.eKw_k, DL.truD_bl, DL.blD_bl, DL.addD_i, DL.subD_i, DL.ltI_i, DL.leI_i, DL.gtI_i, DL.geI_i, DL.negD_i, DL.intD_i, DL.intD_b, DL.max2D_i, DL.min2D_i, DL.gcdD_i, DL.lenD_t, DL.lenD_f, DL.isD_nn, DL.isD_in, DL.isD_tn, DL.isD_bn, DL.isD_sn, DL.isD_ib, DL.isD_tb, DL.isD_bb, DL.isD_sb, DL.isD_nb, DL.isnD_bb, DL.isi_i, DL.isi_b, DL.isi_t, DL.isi_s, DL.isi_n, DL.isTy_ii, DL.isTy_bi, DL.isTy_ib, DL.isTy_bb, DL.isTy_tt, DL.isTy_it, DL.isTy_bt, DL.isTy_ti, DL.isTy_is, DL.isTy_bs, DL.isTy_ss, DL.isTy_st, DL.isTy_nt, DL.isTy_ns, DL.isTy_ni, DL.isTy_ts, DL.isTy_si, DL.isTy_tb, DL.mulD_i, DL.modD_i, DL.fdivD_i, DL.powD_i, DL.tupD_k, DL.lstD_k, DL.fnD_k, DL.endR_rt, DL.endR_nx, DL.endR_ex, List.map_cons, List.map_nil, List.replicate_succ, List.replicate_zero, List.cons_append, List.nil_append, List.getElem?_cons_zero, List.getElem?_cons_succ, List.set_cons_zero, List.set_cons_succ, Nat.reduceSub, Nat.reduceAdd, List.length_cons, List.length_nil, List.any_cons, List.any_nil, Bool.or_false, Bool.or_true, Bool.not_true, Bool.not_false, Nat.reduceLeDiff, Bool.false_or, Bool.true_or, DL.trim_eq, DL.sFor_k, DL.kFor_0, DL.cSrc_k, DL.kSrc_0, DL.cApp_k, DL.kSrcA_0, DL.srcD_t, DL.srcD_f, DL.eqD_ii, DL.neD_ii, DL.ix_t0, DL.ix_t1]
  | [a], hl, h0, ad, _ =>
    have i0 := ix_l (i := 0) hl rfl
    simp only [S__law_total_0, DL.kSeq_0, DL.kSeq_1, DL.kSeq_2, DL.kSeq_3, DL.kSeq_4, DL.sSeq_k, DL.sSkip_k, DL.sBreak_k, DL.sCont_k, DL.sRetN_k, DL.kExpr_0, DL.kExpr_1, DL.sExpr_k, DL.kRet_0, DL.kRet_1, DL.sRet_k, DL.kIf_0, DL.kIf_1, DL.kIf_2, DL.sIf_k, DL.kAsg2_0, DL.kAsg_0, DL.kAsg_1, DL.sAsg_k, DL.sSet_k, DL.gN_k, DL.gsN_k, DL.kG_0, DL.gsC_k, DL.gT_k, DL.kPut4_0, DL.kPut3_0, DL.kPut3_1, DL.kPut2_0, DL.kPut2_1, DL.kPut_0, DL.kPut_1, DL.sPut_k, DL.sPar_k, DL.kVar_0, DL.eVar_k, DL.eC_k, DL.kUn_0, DL.kUn_1, DL.eUn_k, DL.eIsi_k, DL.kBin2_0, DL.kBin2_1, DL.kBin_0, DL.kBin_1, DL.eBin_k, DL.aNil_k, DL.kCons2_0, DL.kCons2_1, DL.kCons_0, DL.kCons_1, DL.aCons_k, DL.kApp_0, DL.kApp_1, DL.eApp_k, DL.kMt2_0, DL.kMt2_1, DL.kMt1_0, DL.kMt_0, DL.kMt_1, DL.eMt_k, DL.kTru_0, DL.kTru_1, DL.tTru_k, DL.kAnd_0, DL.kAnd_1, DL.kAnd_2, DL.tAndF_k, DL.kOr_0, DL.kOr_1, DL.kOr_2, DL.tOrF_k, DL.kNot_0, DL.kNot_1, DL.kNot_2, DL.tNotF_k, DL.kEIf_0, DL.kEIf_1, DL.kEIf_2, DL.eIf_k, DL.kEAnd2_0, DL.kEAnd2_1, DL.kEAnd2_2, DL.kEAnd_0, DL.kEAnd_1, DL.eAnd_k, DL.kEOr2_0, DL.kEOr2_1, DL.kEOr2_2, DL.kEOr_0, DL.kEOr_1, DL.eOr_k, DL.kENot2_0, DL.kENot2_1, DL.kENot2_2, DL.kENot_0, DL.kENot_1, DL.eNot_k, DL.kSl3_0, DL.kSl3_1, DL.kSl2_0, DL.kSl2_1, DL.kSl_0, DL.kSl_1, DL.eSl_k, DL.oNone_k, DL.kOS_0, DL.kOS_1, DL.oSome_k, DL.kKw2_0, DL.kKw2_1, DL.kKw_0, DL.kKw_1, DL.eKw_k, DL.truD_bl, DL.blD_bl, DL.addD_i, DL.subD_i, DL.ltI_i, DL.leI_i, DL.gtI_i, DL.geI_i, DL.negD_i, DL.intD_i, DL.intD_b, DL.max2D_i, DL.min2D_i, DL.gcdD_i, DL.lenD_t, DL.lenD_f, DL.isD_nn, DL.isD_in, DL.isD_tn, DL.isD_bn, DL.isD_sn, DL.isD_ib, DL.isD_tb, DL.isD_bb, DL.isD_sb, DL.isD_nb, DL.isnD_bb, DL.isi_i, DL.isi_b, DL.isi_t, DL.isi_s, DL.isi_n, DL.isTy_ii, DL.isTy_bi, DL.isTy_ib, DL.isTy_bb, DL.isTy_tt, DL.isTy_it, DL.isTy_bt, DL.isTy_ti, DL.isTy_is, DL.isTy_bs, DL.isTy_ss, DL.isTy_st, DL.isTy_nt, DL.isTy_ns, DL.isTy_ni, DL.isTy_ts, DL.isTy_si, DL.isTy_tb, DL.mulD_i, DL.modD_i, DL.fdivD_i, DL.powD_i, DL.tupD_k, DL.lstD_k, DL.fnD_k, DL.endR_rt, DL.endR_nx, DL.endR_ex, List.map_cons, List.map_nil, List.replicate_succ, List.replicate_zero, List.cons_append, List.nil_append, List.getElem?_cons_zero, List.getElem?_cons_succ, List.set_cons_zero, List.set_cons_succ, Nat.reduceSub, Nat.reduceAdd, List.length_cons, List.length_nil, List.any_cons, List.any_nil, Bool.or_false, Bool.or_true, Bool.not_true, Bool.not_false, Nat.reduceLeDiff, Bool.false_or, Bool.true_or, DL.trim_eq, DL.sFor_k, DL.kFor_0, DL.cSrc_k, DL.kSrc_0, DL.cApp_k, DL.kSrcA_0, DL.srcD_t, DL.srcD_f, DL.eqD_ii, DL.neD_ii, DL.ix_t0, DL.ix_t1, h0, show ((((0 + 1 : Nat) : Int)) == 0) = false from rfl]
    simp only [S__law_total_1, DL.kSeq_0, DL.kSeq_1, DL.kSeq_2, DL.kSeq_3, DL.kSeq_4, DL.sSeq_k, DL.sSkip_k, DL.sBreak_k, DL.sCont_k, DL.sRetN_k, DL.kExpr_0, DL.kExpr_1, DL.sExpr_k, DL.kRet_0, DL.kRet_1, DL.sRet_k, DL.kIf_0, DL.kIf_1, DL.kIf_2, DL.sIf_k, DL.kAsg2_0, DL.kAsg_0, DL.kAsg_1, DL.sAsg_k, DL.sSet_k, DL.gN_k, DL.gsN_k, DL.kG_0, DL.gsC_k, DL.gT_k, DL.kPut4_0, DL.kPut3_0, DL.kPut3_1, DL.kPut2_0, DL.kPut2_1, DL.kPut_0, DL.kPut_1, DL.sPut_k, DL.sPar_k, DL.kVar_0, DL.eVar_k, DL.eC_k, DL.kUn_0, DL.kUn_1, DL.eUn_k, DL.eIsi_k, DL.kBin2_0, DL.kBin2_1, DL.kBin_0, DL.kBin_1, DL.eBin_k, DL.aNil_k, DL.kCons2_0, DL.kCons2_1, DL.kCons_0, DL.kCons_1, DL.aCons_k, DL.kApp_0, DL.kApp_1, DL.eApp_k, DL.kMt2_0, DL.kMt2_1, DL.kMt1_0, DL.kMt_0, DL.kMt_1, DL.eMt_k, DL.kTru_0, DL.kTru_1, DL.tTru_k, DL.kAnd_0, DL.kAnd_1, DL.kAnd_2, DL.tAndF_k, DL.kOr_0, DL.kOr_1, DL.kOr_2, DL.tOrF_k, DL.kNot_0, DL.kNot_1, DL.kNot_2, DL.tNotF_k, DL.kEIf_0, DL.kEIf_1, DL.kEIf_2, DL.eIf_k, DL.kEAnd2_0, DL.kEAnd2_1, DL.kEAnd2_2, DL.kEAnd_0, DL.kEAnd_1, DL.eAnd_k, DL.kEOr2_0, DL.kEOr2_1, DL.kEOr2_2, DL.kEOr_0, DL.kEOr_1, DL.eOr_k, DL.kENot2_0, DL.kENot2_1, DL.kENot2_2, DL.kENot_0, DL.kENot_1, DL.eNot_k, DL.kSl3_0, DL.kSl3_1, DL.kSl2_0, DL.kSl2_1, DL.kSl_0, DL.kSl_1, DL.eSl_k, DL.oNone_k, DL.kOS_0, DL.kOS_1, DL.oSome_k, DL.kKw2_0, DL.kKw2_1, DL.kKw_0, DL.kKw_1, DL.eKw_k, DL.truD_bl, DL.blD_bl, DL.addD_i, DL.subD_i, DL.ltI_i, DL.leI_i, DL.gtI_i, DL.geI_i, DL.negD_i, DL.intD_i, DL.intD_b, DL.max2D_i, DL.min2D_i, DL.gcdD_i, DL.lenD_t, DL.lenD_f, DL.isD_nn, DL.isD_in, DL.isD_tn, DL.isD_bn, DL.isD_sn, DL.isD_ib, DL.isD_tb, DL.isD_bb, DL.isD_sb, DL.isD_nb, DL.isnD_bb, DL.isi_i, DL.isi_b, DL.isi_t, DL.isi_s, DL.isi_n, DL.isTy_ii, DL.isTy_bi, DL.isTy_ib, DL.isTy_bb, DL.isTy_tt, DL.isTy_it, DL.isTy_bt, DL.isTy_ti, DL.isTy_is, DL.isTy_bs, DL.isTy_ss, DL.isTy_st, DL.isTy_nt, DL.isTy_ns, DL.isTy_ni, DL.isTy_ts, DL.isTy_si, DL.isTy_tb, DL.mulD_i, DL.modD_i, DL.fdivD_i, DL.powD_i, DL.tupD_k, DL.lstD_k, DL.fnD_k, DL.endR_rt, DL.endR_nx, DL.endR_ex, List.map_cons, List.map_nil, List.replicate_succ, List.replicate_zero, List.cons_append, List.nil_append, List.getElem?_cons_zero, List.getElem?_cons_succ, List.set_cons_zero, List.set_cons_succ, Nat.reduceSub, Nat.reduceAdd, List.length_cons, List.length_nil, List.any_cons, List.any_nil, Bool.or_false, Bool.or_true, Bool.not_true, Bool.not_false, Nat.reduceLeDiff, Bool.false_or, Bool.true_or, DL.trim_eq, DL.sFor_k, DL.kFor_0, DL.cSrc_k, DL.kSrc_0, DL.cApp_k, DL.kSrcA_0, DL.srcD_t, DL.srcD_f, DL.eqD_ii, DL.neD_ii, DL.ix_t0, DL.ix_t1, h0, show ((((0 + 1 : Nat) : Int)) == 1) = true from rfl, i0, ga [mo a] (by simp)]
    rw [show F_added [.tup [mo a]] s = _ from ad]
    simp only [DL.kSeq_0, DL.kSeq_1, DL.kSeq_2, DL.kSeq_3, DL.kSeq_4, DL.sSeq_k, DL.sSkip_k, DL.sBreak_k, DL.sCont_k, DL.sRetN_k, DL.kExpr_0, DL.kExpr_1, DL.sExpr_k, DL.kRet_0, DL.kRet_1, DL.sRet_k, DL.kIf_0, DL.kIf_1, DL.kIf_2, DL.sIf_k, DL.kAsg2_0, DL.kAsg_0, DL.kAsg_1, DL.sAsg_k, DL.sSet_k, DL.gN_k, DL.gsN_k, DL.kG_0, DL.gsC_k, DL.gT_k, DL.kPut4_0, DL.kPut3_0, DL.kPut3_1, DL.kPut2_0, DL.kPut2_1, DL.kPut_0, DL.kPut_1, DL.sPut_k, DL.sPar_k, DL.kVar_0, DL.eVar_k, DL.eC_k, DL.kUn_0, DL.kUn_1, DL.eUn_k, DL.eIsi_k, DL.kBin2_0, DL.kBin2_1, DL.kBin_0, DL.kBin_1, DL.eBin_k, DL.aNil_k, DL.kCons2_0, DL.kCons2_1, DL.kCons_0, DL.kCons_1, DL.aCons_k, DL.kApp_0, DL.kApp_1, DL.eApp_k, DL.kMt2_0, DL.kMt2_1, DL.kMt1_0, DL.kMt_0, DL.kMt_1, DL.eMt_k, DL.kTru_0, DL.kTru_1, DL.tTru_k, DL.kAnd_0, DL.kAnd_1, DL.kAnd_2, DL.tAndF_k, DL.kOr_0, DL.kOr_1, DL.kOr_2, DL.tOrF_k, DL.kNot_0, DL.kNot_1, DL.kNot_2, DL.tNotF_k, DL.kEIf_0, DL.kEIf_1, DL.kEIf_2, DL.eIf_k, DL.kEAnd2_0, DL.kEAnd2_1, DL.kEAnd2_2, DL.kEAnd_0, DL.kEAnd_1, DL.eAnd_k, DL.kEOr2_0, DL.kEOr2_1, DL.kEOr2_2, DL.kEOr_0, DL.kEOr_1, DL.eOr_k, DL.kENot2_0, DL.kENot2_1, DL.kENot2_2, DL.kENot_0, DL.kENot_1, DL.eNot_k, DL.kSl3_0, DL.kSl3_1, DL.kSl2_0, DL.kSl2_1, DL.kSl_0, DL.kSl_1, DL.eSl_k, DL.oNone_k, DL.kOS_0, DL.kOS_1, DL.oSome_k, DL.kKw2_0, DL.kKw2_1, DL.kKw_0, DL.kKw_1, DL.eKw_k, DL.truD_bl, DL.blD_bl, DL.addD_i, DL.subD_i, DL.ltI_i, DL.leI_i, DL.gtI_i, DL.geI_i, DL.negD_i, DL.intD_i, DL.intD_b, DL.max2D_i, DL.min2D_i, DL.gcdD_i, DL.lenD_t, DL.lenD_f, DL.isD_nn, DL.isD_in, DL.isD_tn, DL.isD_bn, DL.isD_sn, DL.isD_ib, DL.isD_tb, DL.isD_bb, DL.isD_sb, DL.isD_nb, DL.isnD_bb, DL.isi_i, DL.isi_b, DL.isi_t, DL.isi_s, DL.isi_n, DL.isTy_ii, DL.isTy_bi, DL.isTy_ib, DL.isTy_bb, DL.isTy_tt, DL.isTy_it, DL.isTy_bt, DL.isTy_ti, DL.isTy_is, DL.isTy_bs, DL.isTy_ss, DL.isTy_st, DL.isTy_nt, DL.isTy_ns, DL.isTy_ni, DL.isTy_ts, DL.isTy_si, DL.isTy_tb, DL.mulD_i, DL.modD_i, DL.fdivD_i, DL.powD_i, DL.tupD_k, DL.lstD_k, DL.fnD_k, DL.endR_rt, DL.endR_nx, DL.endR_ex, List.map_cons, List.map_nil, List.replicate_succ, List.replicate_zero, List.cons_append, List.nil_append, List.getElem?_cons_zero, List.getElem?_cons_succ, List.set_cons_zero, List.set_cons_succ, Nat.reduceSub, Nat.reduceAdd, List.length_cons, List.length_nil, List.any_cons, List.any_nil, Bool.or_false, Bool.or_true, Bool.not_true, Bool.not_false, Nat.reduceLeDiff, Bool.false_or, Bool.true_or, DL.trim_eq, DL.sFor_k, DL.kFor_0, DL.cSrc_k, DL.kSrc_0, DL.cApp_k, DL.kSrcA_0, DL.srcD_t, DL.srcD_f, DL.eqD_ii, DL.neD_ii, DL.ix_t0, DL.ix_t1]
  | [a, b], hl, h0, ad, _ =>
    have i0 := ix_l (i := 0) hl rfl
    have i1 := ix_l (i := 1) hl rfl
    simp only [S__law_total_0, S__law_total_1, DL.kSeq_0, DL.kSeq_1, DL.kSeq_2, DL.kSeq_3, DL.kSeq_4, DL.sSeq_k, DL.sSkip_k, DL.sBreak_k, DL.sCont_k, DL.sRetN_k, DL.kExpr_0, DL.kExpr_1, DL.sExpr_k, DL.kRet_0, DL.kRet_1, DL.sRet_k, DL.kIf_0, DL.kIf_1, DL.kIf_2, DL.sIf_k, DL.kAsg2_0, DL.kAsg_0, DL.kAsg_1, DL.sAsg_k, DL.sSet_k, DL.gN_k, DL.gsN_k, DL.kG_0, DL.gsC_k, DL.gT_k, DL.kPut4_0, DL.kPut3_0, DL.kPut3_1, DL.kPut2_0, DL.kPut2_1, DL.kPut_0, DL.kPut_1, DL.sPut_k, DL.sPar_k, DL.kVar_0, DL.eVar_k, DL.eC_k, DL.kUn_0, DL.kUn_1, DL.eUn_k, DL.eIsi_k, DL.kBin2_0, DL.kBin2_1, DL.kBin_0, DL.kBin_1, DL.eBin_k, DL.aNil_k, DL.kCons2_0, DL.kCons2_1, DL.kCons_0, DL.kCons_1, DL.aCons_k, DL.kApp_0, DL.kApp_1, DL.eApp_k, DL.kMt2_0, DL.kMt2_1, DL.kMt1_0, DL.kMt_0, DL.kMt_1, DL.eMt_k, DL.kTru_0, DL.kTru_1, DL.tTru_k, DL.kAnd_0, DL.kAnd_1, DL.kAnd_2, DL.tAndF_k, DL.kOr_0, DL.kOr_1, DL.kOr_2, DL.tOrF_k, DL.kNot_0, DL.kNot_1, DL.kNot_2, DL.tNotF_k, DL.kEIf_0, DL.kEIf_1, DL.kEIf_2, DL.eIf_k, DL.kEAnd2_0, DL.kEAnd2_1, DL.kEAnd2_2, DL.kEAnd_0, DL.kEAnd_1, DL.eAnd_k, DL.kEOr2_0, DL.kEOr2_1, DL.kEOr2_2, DL.kEOr_0, DL.kEOr_1, DL.eOr_k, DL.kENot2_0, DL.kENot2_1, DL.kENot2_2, DL.kENot_0, DL.kENot_1, DL.eNot_k, DL.kSl3_0, DL.kSl3_1, DL.kSl2_0, DL.kSl2_1, DL.kSl_0, DL.kSl_1, DL.eSl_k, DL.oNone_k, DL.kOS_0, DL.kOS_1, DL.oSome_k, DL.kKw2_0, DL.kKw2_1, DL.kKw_0, DL.kKw_1, DL.eKw_k, DL.truD_bl, DL.blD_bl, DL.addD_i, DL.subD_i, DL.ltI_i, DL.leI_i, DL.gtI_i, DL.geI_i, DL.negD_i, DL.intD_i, DL.intD_b, DL.max2D_i, DL.min2D_i, DL.gcdD_i, DL.lenD_t, DL.lenD_f, DL.isD_nn, DL.isD_in, DL.isD_tn, DL.isD_bn, DL.isD_sn, DL.isD_ib, DL.isD_tb, DL.isD_bb, DL.isD_sb, DL.isD_nb, DL.isnD_bb, DL.isi_i, DL.isi_b, DL.isi_t, DL.isi_s, DL.isi_n, DL.isTy_ii, DL.isTy_bi, DL.isTy_ib, DL.isTy_bb, DL.isTy_tt, DL.isTy_it, DL.isTy_bt, DL.isTy_ti, DL.isTy_is, DL.isTy_bs, DL.isTy_ss, DL.isTy_st, DL.isTy_nt, DL.isTy_ns, DL.isTy_ni, DL.isTy_ts, DL.isTy_si, DL.isTy_tb, DL.mulD_i, DL.modD_i, DL.fdivD_i, DL.powD_i, DL.tupD_k, DL.lstD_k, DL.fnD_k, DL.endR_rt, DL.endR_nx, DL.endR_ex, List.map_cons, List.map_nil, List.replicate_succ, List.replicate_zero, List.cons_append, List.nil_append, List.getElem?_cons_zero, List.getElem?_cons_succ, List.set_cons_zero, List.set_cons_succ, Nat.reduceSub, Nat.reduceAdd, List.length_cons, List.length_nil, List.any_cons, List.any_nil, Bool.or_false, Bool.or_true, Bool.not_true, Bool.not_false, Nat.reduceLeDiff, Bool.false_or, Bool.true_or, DL.trim_eq, DL.sFor_k, DL.kFor_0, DL.cSrc_k, DL.kSrc_0, DL.cApp_k, DL.kSrcA_0, DL.srcD_t, DL.srcD_f, DL.eqD_ii, DL.neD_ii, DL.ix_t0, DL.ix_t1, h0, show ((((0 + 1 + 1 : Nat) : Int)) == 0) = false from rfl, show ((((0 + 1 + 1 : Nat) : Int)) == 1) = false from rfl]
    simp only [S__law_total_2, DL.kSeq_0, DL.kSeq_1, DL.kSeq_2, DL.kSeq_3, DL.kSeq_4, DL.sSeq_k, DL.sSkip_k, DL.sBreak_k, DL.sCont_k, DL.sRetN_k, DL.kExpr_0, DL.kExpr_1, DL.sExpr_k, DL.kRet_0, DL.kRet_1, DL.sRet_k, DL.kIf_0, DL.kIf_1, DL.kIf_2, DL.sIf_k, DL.kAsg2_0, DL.kAsg_0, DL.kAsg_1, DL.sAsg_k, DL.sSet_k, DL.gN_k, DL.gsN_k, DL.kG_0, DL.gsC_k, DL.gT_k, DL.kPut4_0, DL.kPut3_0, DL.kPut3_1, DL.kPut2_0, DL.kPut2_1, DL.kPut_0, DL.kPut_1, DL.sPut_k, DL.sPar_k, DL.kVar_0, DL.eVar_k, DL.eC_k, DL.kUn_0, DL.kUn_1, DL.eUn_k, DL.eIsi_k, DL.kBin2_0, DL.kBin2_1, DL.kBin_0, DL.kBin_1, DL.eBin_k, DL.aNil_k, DL.kCons2_0, DL.kCons2_1, DL.kCons_0, DL.kCons_1, DL.aCons_k, DL.kApp_0, DL.kApp_1, DL.eApp_k, DL.kMt2_0, DL.kMt2_1, DL.kMt1_0, DL.kMt_0, DL.kMt_1, DL.eMt_k, DL.kTru_0, DL.kTru_1, DL.tTru_k, DL.kAnd_0, DL.kAnd_1, DL.kAnd_2, DL.tAndF_k, DL.kOr_0, DL.kOr_1, DL.kOr_2, DL.tOrF_k, DL.kNot_0, DL.kNot_1, DL.kNot_2, DL.tNotF_k, DL.kEIf_0, DL.kEIf_1, DL.kEIf_2, DL.eIf_k, DL.kEAnd2_0, DL.kEAnd2_1, DL.kEAnd2_2, DL.kEAnd_0, DL.kEAnd_1, DL.eAnd_k, DL.kEOr2_0, DL.kEOr2_1, DL.kEOr2_2, DL.kEOr_0, DL.kEOr_1, DL.eOr_k, DL.kENot2_0, DL.kENot2_1, DL.kENot2_2, DL.kENot_0, DL.kENot_1, DL.eNot_k, DL.kSl3_0, DL.kSl3_1, DL.kSl2_0, DL.kSl2_1, DL.kSl_0, DL.kSl_1, DL.eSl_k, DL.oNone_k, DL.kOS_0, DL.kOS_1, DL.oSome_k, DL.kKw2_0, DL.kKw2_1, DL.kKw_0, DL.kKw_1, DL.eKw_k, DL.truD_bl, DL.blD_bl, DL.addD_i, DL.subD_i, DL.ltI_i, DL.leI_i, DL.gtI_i, DL.geI_i, DL.negD_i, DL.intD_i, DL.intD_b, DL.max2D_i, DL.min2D_i, DL.gcdD_i, DL.lenD_t, DL.lenD_f, DL.isD_nn, DL.isD_in, DL.isD_tn, DL.isD_bn, DL.isD_sn, DL.isD_ib, DL.isD_tb, DL.isD_bb, DL.isD_sb, DL.isD_nb, DL.isnD_bb, DL.isi_i, DL.isi_b, DL.isi_t, DL.isi_s, DL.isi_n, DL.isTy_ii, DL.isTy_bi, DL.isTy_ib, DL.isTy_bb, DL.isTy_tt, DL.isTy_it, DL.isTy_bt, DL.isTy_ti, DL.isTy_is, DL.isTy_bs, DL.isTy_ss, DL.isTy_st, DL.isTy_nt, DL.isTy_ns, DL.isTy_ni, DL.isTy_ts, DL.isTy_si, DL.isTy_tb, DL.mulD_i, DL.modD_i, DL.fdivD_i, DL.powD_i, DL.tupD_k, DL.lstD_k, DL.fnD_k, DL.endR_rt, DL.endR_nx, DL.endR_ex, List.map_cons, List.map_nil, List.replicate_succ, List.replicate_zero, List.cons_append, List.nil_append, List.getElem?_cons_zero, List.getElem?_cons_succ, List.set_cons_zero, List.set_cons_succ, Nat.reduceSub, Nat.reduceAdd, List.length_cons, List.length_nil, List.any_cons, List.any_nil, Bool.or_false, Bool.or_true, Bool.not_true, Bool.not_false, Nat.reduceLeDiff, Bool.false_or, Bool.true_or, DL.trim_eq, DL.sFor_k, DL.kFor_0, DL.cSrc_k, DL.kSrc_0, DL.cApp_k, DL.kSrcA_0, DL.srcD_t, DL.srcD_f, DL.eqD_ii, DL.neD_ii, DL.ix_t0, DL.ix_t1, h0, show ((((0 + 1 + 1 : Nat) : Int)) == 2) = true from rfl, i0, i1, ga [mo a, mo b] (by simp)]
    rw [show F_added [.tup [mo a, mo b]] s = _ from ad]
    simp only [DL.kSeq_0, DL.kSeq_1, DL.kSeq_2, DL.kSeq_3, DL.kSeq_4, DL.sSeq_k, DL.sSkip_k, DL.sBreak_k, DL.sCont_k, DL.sRetN_k, DL.kExpr_0, DL.kExpr_1, DL.sExpr_k, DL.kRet_0, DL.kRet_1, DL.sRet_k, DL.kIf_0, DL.kIf_1, DL.kIf_2, DL.sIf_k, DL.kAsg2_0, DL.kAsg_0, DL.kAsg_1, DL.sAsg_k, DL.sSet_k, DL.gN_k, DL.gsN_k, DL.kG_0, DL.gsC_k, DL.gT_k, DL.kPut4_0, DL.kPut3_0, DL.kPut3_1, DL.kPut2_0, DL.kPut2_1, DL.kPut_0, DL.kPut_1, DL.sPut_k, DL.sPar_k, DL.kVar_0, DL.eVar_k, DL.eC_k, DL.kUn_0, DL.kUn_1, DL.eUn_k, DL.eIsi_k, DL.kBin2_0, DL.kBin2_1, DL.kBin_0, DL.kBin_1, DL.eBin_k, DL.aNil_k, DL.kCons2_0, DL.kCons2_1, DL.kCons_0, DL.kCons_1, DL.aCons_k, DL.kApp_0, DL.kApp_1, DL.eApp_k, DL.kMt2_0, DL.kMt2_1, DL.kMt1_0, DL.kMt_0, DL.kMt_1, DL.eMt_k, DL.kTru_0, DL.kTru_1, DL.tTru_k, DL.kAnd_0, DL.kAnd_1, DL.kAnd_2, DL.tAndF_k, DL.kOr_0, DL.kOr_1, DL.kOr_2, DL.tOrF_k, DL.kNot_0, DL.kNot_1, DL.kNot_2, DL.tNotF_k, DL.kEIf_0, DL.kEIf_1, DL.kEIf_2, DL.eIf_k, DL.kEAnd2_0, DL.kEAnd2_1, DL.kEAnd2_2, DL.kEAnd_0, DL.kEAnd_1, DL.eAnd_k, DL.kEOr2_0, DL.kEOr2_1, DL.kEOr2_2, DL.kEOr_0, DL.kEOr_1, DL.eOr_k, DL.kENot2_0, DL.kENot2_1, DL.kENot2_2, DL.kENot_0, DL.kENot_1, DL.eNot_k, DL.kSl3_0, DL.kSl3_1, DL.kSl2_0, DL.kSl2_1, DL.kSl_0, DL.kSl_1, DL.eSl_k, DL.oNone_k, DL.kOS_0, DL.kOS_1, DL.oSome_k, DL.kKw2_0, DL.kKw2_1, DL.kKw_0, DL.kKw_1, DL.eKw_k, DL.truD_bl, DL.blD_bl, DL.addD_i, DL.subD_i, DL.ltI_i, DL.leI_i, DL.gtI_i, DL.geI_i, DL.negD_i, DL.intD_i, DL.intD_b, DL.max2D_i, DL.min2D_i, DL.gcdD_i, DL.lenD_t, DL.lenD_f, DL.isD_nn, DL.isD_in, DL.isD_tn, DL.isD_bn, DL.isD_sn, DL.isD_ib, DL.isD_tb, DL.isD_bb, DL.isD_sb, DL.isD_nb, DL.isnD_bb, DL.isi_i, DL.isi_b, DL.isi_t, DL.isi_s, DL.isi_n, DL.isTy_ii, DL.isTy_bi, DL.isTy_ib, DL.isTy_bb, DL.isTy_tt, DL.isTy_it, DL.isTy_bt, DL.isTy_ti, DL.isTy_is, DL.isTy_bs, DL.isTy_ss, DL.isTy_st, DL.isTy_nt, DL.isTy_ns, DL.isTy_ni, DL.isTy_ts, DL.isTy_si, DL.isTy_tb, DL.mulD_i, DL.modD_i, DL.fdivD_i, DL.powD_i, DL.tupD_k, DL.lstD_k, DL.fnD_k, DL.endR_rt, DL.endR_nx, DL.endR_ex, List.map_cons, List.map_nil, List.replicate_succ, List.replicate_zero, List.cons_append, List.nil_append, List.getElem?_cons_zero, List.getElem?_cons_succ, List.set_cons_zero, List.set_cons_succ, Nat.reduceSub, Nat.reduceAdd, List.length_cons, List.length_nil, List.any_cons, List.any_nil, Bool.or_false, Bool.or_true, Bool.not_true, Bool.not_false, Nat.reduceLeDiff, Bool.false_or, Bool.true_or, DL.trim_eq, DL.sFor_k, DL.kFor_0, DL.cSrc_k, DL.kSrc_0, DL.cApp_k, DL.kSrcA_0, DL.srcD_t, DL.srcD_f, DL.eqD_ii, DL.neD_ii, DL.ix_t0, DL.ix_t1]
  | [a, b, c], hl, h0, ad, _ =>
    have i0 := ix_l (i := 0) hl rfl
    have i1 := ix_l (i := 1) hl rfl
    have i2 := ix_l (i := 2) hl rfl
    simp only [S__law_total_0, S__law_total_1, S__law_total_2, DL.kSeq_0, DL.kSeq_1, DL.kSeq_2, DL.kSeq_3, DL.kSeq_4, DL.sSeq_k, DL.sSkip_k, DL.sBreak_k, DL.sCont_k, DL.sRetN_k, DL.kExpr_0, DL.kExpr_1, DL.sExpr_k, DL.kRet_0, DL.kRet_1, DL.sRet_k, DL.kIf_0, DL.kIf_1, DL.kIf_2, DL.sIf_k, DL.kAsg2_0, DL.kAsg_0, DL.kAsg_1, DL.sAsg_k, DL.sSet_k, DL.gN_k, DL.gsN_k, DL.kG_0, DL.gsC_k, DL.gT_k, DL.kPut4_0, DL.kPut3_0, DL.kPut3_1, DL.kPut2_0, DL.kPut2_1, DL.kPut_0, DL.kPut_1, DL.sPut_k, DL.sPar_k, DL.kVar_0, DL.eVar_k, DL.eC_k, DL.kUn_0, DL.kUn_1, DL.eUn_k, DL.eIsi_k, DL.kBin2_0, DL.kBin2_1, DL.kBin_0, DL.kBin_1, DL.eBin_k, DL.aNil_k, DL.kCons2_0, DL.kCons2_1, DL.kCons_0, DL.kCons_1, DL.aCons_k, DL.kApp_0, DL.kApp_1, DL.eApp_k, DL.kMt2_0, DL.kMt2_1, DL.kMt1_0, DL.kMt_0, DL.kMt_1, DL.eMt_k, DL.kTru_0, DL.kTru_1, DL.tTru_k, DL.kAnd_0, DL.kAnd_1, DL.kAnd_2, DL.tAndF_k, DL.kOr_0, DL.kOr_1, DL.kOr_2, DL.tOrF_k, DL.kNot_0, DL.kNot_1, DL.kNot_2, DL.tNotF_k, DL.kEIf_0, DL.kEIf_1, DL.kEIf_2, DL.eIf_k, DL.kEAnd2_0, DL.kEAnd2_1, DL.kEAnd2_2, DL.kEAnd_0, DL.kEAnd_1, DL.eAnd_k, DL.kEOr2_0, DL.kEOr2_1, DL.kEOr2_2, DL.kEOr_0, DL.kEOr_1, DL.eOr_k, DL.kENot2_0, DL.kENot2_1, DL.kENot2_2, DL.kENot_0, DL.kENot_1, DL.eNot_k, DL.kSl3_0, DL.kSl3_1, DL.kSl2_0, DL.kSl2_1, DL.kSl_0, DL.kSl_1, DL.eSl_k, DL.oNone_k, DL.kOS_0, DL.kOS_1, DL.oSome_k, DL.kKw2_0, DL.kKw2_1, DL.kKw_0, DL.kKw_1, DL.eKw_k, DL.truD_bl, DL.blD_bl, DL.addD_i, DL.subD_i, DL.ltI_i, DL.leI_i, DL.gtI_i, DL.geI_i, DL.negD_i, DL.intD_i, DL.intD_b, DL.max2D_i, DL.min2D_i, DL.gcdD_i, DL.lenD_t, DL.lenD_f, DL.isD_nn, DL.isD_in, DL.isD_tn, DL.isD_bn, DL.isD_sn, DL.isD_ib, DL.isD_tb, DL.isD_bb, DL.isD_sb, DL.isD_nb, DL.isnD_bb, DL.isi_i, DL.isi_b, DL.isi_t, DL.isi_s, DL.isi_n, DL.isTy_ii, DL.isTy_bi, DL.isTy_ib, DL.isTy_bb, DL.isTy_tt, DL.isTy_it, DL.isTy_bt, DL.isTy_ti, DL.isTy_is, DL.isTy_bs, DL.isTy_ss, DL.isTy_st, DL.isTy_nt, DL.isTy_ns, DL.isTy_ni, DL.isTy_ts, DL.isTy_si, DL.isTy_tb, DL.mulD_i, DL.modD_i, DL.fdivD_i, DL.powD_i, DL.tupD_k, DL.lstD_k, DL.fnD_k, DL.endR_rt, DL.endR_nx, DL.endR_ex, List.map_cons, List.map_nil, List.replicate_succ, List.replicate_zero, List.cons_append, List.nil_append, List.getElem?_cons_zero, List.getElem?_cons_succ, List.set_cons_zero, List.set_cons_succ, Nat.reduceSub, Nat.reduceAdd, List.length_cons, List.length_nil, List.any_cons, List.any_nil, Bool.or_false, Bool.or_true, Bool.not_true, Bool.not_false, Nat.reduceLeDiff, Bool.false_or, Bool.true_or, DL.trim_eq, DL.sFor_k, DL.kFor_0, DL.cSrc_k, DL.kSrc_0, DL.cApp_k, DL.kSrcA_0, DL.srcD_t, DL.srcD_f, DL.eqD_ii, DL.neD_ii, DL.ix_t0, DL.ix_t1, h0, show ((((0 + 1 + 1 + 1 : Nat) : Int)) == 0) = false from rfl, show ((((0 + 1 + 1 + 1 : Nat) : Int)) == 1) = false from rfl, show ((((0 + 1 + 1 + 1 : Nat) : Int)) == 2) = false from rfl]
    simp only [S__law_total_3, DL.kSeq_0, DL.kSeq_1, DL.kSeq_2, DL.kSeq_3, DL.kSeq_4, DL.sSeq_k, DL.sSkip_k, DL.sBreak_k, DL.sCont_k, DL.sRetN_k, DL.kExpr_0, DL.kExpr_1, DL.sExpr_k, DL.kRet_0, DL.kRet_1, DL.sRet_k, DL.kIf_0, DL.kIf_1, DL.kIf_2, DL.sIf_k, DL.kAsg2_0, DL.kAsg_0, DL.kAsg_1, DL.sAsg_k, DL.sSet_k, DL.gN_k, DL.gsN_k, DL.kG_0, DL.gsC_k, DL.gT_k, DL.kPut4_0, DL.kPut3_0, DL.kPut3_1, DL.kPut2_0, DL.kPut2_1, DL.kPut_0, DL.kPut_1, DL.sPut_k, DL.sPar_k, DL.kVar_0, DL.eVar_k, DL.eC_k, DL.kUn_0, DL.kUn_1, DL.eUn_k, DL.eIsi_k, DL.kBin2_0, DL.kBin2_1, DL.kBin_0, DL.kBin_1, DL.eBin_k, DL.aNil_k, DL.kCons2_0, DL.kCons2_1, DL.kCons_0, DL.kCons_1, DL.aCons_k, DL.kApp_0, DL.kApp_1, DL.eApp_k, DL.kMt2_0, DL.kMt2_1, DL.kMt1_0, DL.kMt_0, DL.kMt_1, DL.eMt_k, DL.kTru_0, DL.kTru_1, DL.tTru_k, DL.kAnd_0, DL.kAnd_1, DL.kAnd_2, DL.tAndF_k, DL.kOr_0, DL.kOr_1, DL.kOr_2, DL.tOrF_k, DL.kNot_0, DL.kNot_1, DL.kNot_2, DL.tNotF_k, DL.kEIf_0, DL.kEIf_1, DL.kEIf_2, DL.eIf_k, DL.kEAnd2_0, DL.kEAnd2_1, DL.kEAnd2_2, DL.kEAnd_0, DL.kEAnd_1, DL.eAnd_k, DL.kEOr2_0, DL.kEOr2_1, DL.kEOr2_2, DL.kEOr_0, DL.kEOr_1, DL.eOr_k, DL.kENot2_0, DL.kENot2_1, DL.kENot2_2, DL.kENot_0, DL.kENot_1, DL.eNot_k, DL.kSl3_0, DL.kSl3_1, DL.kSl2_0, DL.kSl2_1, DL.kSl_0, DL.kSl_1, DL.eSl_k, DL.oNone_k, DL.kOS_0, DL.kOS_1, DL.oSome_k, DL.kKw2_0, DL.kKw2_1, DL.kKw_0, DL.kKw_1, DL.eKw_k, DL.truD_bl, DL.blD_bl, DL.addD_i, DL.subD_i, DL.ltI_i, DL.leI_i, DL.gtI_i, DL.geI_i, DL.negD_i, DL.intD_i, DL.intD_b, DL.max2D_i, DL.min2D_i, DL.gcdD_i, DL.lenD_t, DL.lenD_f, DL.isD_nn, DL.isD_in, DL.isD_tn, DL.isD_bn, DL.isD_sn, DL.isD_ib, DL.isD_tb, DL.isD_bb, DL.isD_sb, DL.isD_nb, DL.isnD_bb, DL.isi_i, DL.isi_b, DL.isi_t, DL.isi_s, DL.isi_n, DL.isTy_ii, DL.isTy_bi, DL.isTy_ib, DL.isTy_bb, DL.isTy_tt, DL.isTy_it, DL.isTy_bt, DL.isTy_ti, DL.isTy_is, DL.isTy_bs, DL.isTy_ss, DL.isTy_st, DL.isTy_nt, DL.isTy_ns, DL.isTy_ni, DL.isTy_ts, DL.isTy_si, DL.isTy_tb, DL.mulD_i, DL.modD_i, DL.fdivD_i, DL.powD_i, DL.tupD_k, DL.lstD_k, DL.fnD_k, DL.endR_rt, DL.endR_nx, DL.endR_ex, List.map_cons, List.map_nil, List.replicate_succ, List.replicate_zero, List.cons_append, List.nil_append, List.getElem?_cons_zero, List.getElem?_cons_succ, List.set_cons_zero, List.set_cons_succ, Nat.reduceSub, Nat.reduceAdd, List.length_cons, List.length_nil, List.any_cons, List.any_nil, Bool.or_false, Bool.or_true, Bool.not_true, Bool.not_false, Nat.reduceLeDiff, Bool.false_or, Bool.true_or, DL.trim_eq, DL.sFor_k, DL.kFor_0, DL.cSrc_k, DL.kSrc_0, DL.cApp_k, DL.kSrcA_0, DL.srcD_t, DL.srcD_f, DL.eqD_ii, DL.neD_ii, DL.ix_t0, DL.ix_t1, h0, show ((((0 + 1 + 1 + 1 : Nat) : Int)) == 3) = true from rfl, i0, i1, i2, ga [mo a, mo b, mo c] (by simp)]
    rw [show F_added [.tup [mo a, mo b, mo c]] s = _ from ad]
    simp only [DL.kSeq_0, DL.kSeq_1, DL.kSeq_2, DL.kSeq_3, DL.kSeq_4, DL.sSeq_k, DL.sSkip_k, DL.sBreak_k, DL.sCont_k, DL.sRetN_k, DL.kExpr_0, DL.kExpr_1, DL.sExpr_k, DL.kRet_0, DL.kRet_1, DL.sRet_k, DL.kIf_0, DL.kIf_1, DL.kIf_2, DL.sIf_k, DL.kAsg2_0, DL.kAsg_0, DL.kAsg_1, DL.sAsg_k, DL.sSet_k, DL.gN_k, DL.gsN_k, DL.kG_0, DL.gsC_k, DL.gT_k, DL.kPut4_0, DL.kPut3_0, DL.kPut3_1, DL.kPut2_0, DL.kPut2_1, DL.kPut_0, DL.kPut_1, DL.sPut_k, DL.sPar_k, DL.kVar_0, DL.eVar_k, DL.eC_k, DL.kUn_0, DL.kUn_1, DL.eUn_k, DL.eIsi_k, DL.kBin2_0, DL.kBin2_1, DL.kBin_0, DL.kBin_1, DL.eBin_k, DL.aNil_k, DL.kCons2_0, DL.kCons2_1, DL.kCons_0, DL.kCons_1, DL.aCons_k, DL.kApp_0, DL.kApp_1, DL.eApp_k, DL.kMt2_0, DL.kMt2_1, DL.kMt1_0, DL.kMt_0, DL.kMt_1, DL.eMt_k, DL.kTru_0, DL.kTru_1, DL.tTru_k, DL.kAnd_0, DL.kAnd_1, DL.kAnd_2, DL.tAndF_k, DL.kOr_0, DL.kOr_1, DL.kOr_2, DL.tOrF_k, DL.kNot_0, DL.kNot_1, DL.kNot_2, DL.tNotF_k, DL.kEIf_0, DL.kEIf_1, DL.kEIf_2, DL.eIf_k, DL.kEAnd2_0, DL.kEAnd2_1, DL.kEAnd2_2, DL.kEAnd_0, DL.kEAnd_1, DL.eAnd_k, DL.kEOr2_0, DL.kEOr2_1, DL.kEOr2_2, DL.kEOr_0, DL.kEOr_1, DL.eOr_k, DL.kENot2_0, DL.kENot2_1, DL.kENot2_2, DL.kENot_0, DL.kENot_1, DL.eNot_k, DL.kSl3_0, DL.kSl3_1, DL.kSl2_0, DL.kSl2_1, DL.kSl_0, DL.kSl_1, DL.eSl_k, DL.oNone_k, DL.kOS_0, DL.kOS_1, DL.oSome_k, DL.kKw2_0, DL.kKw2_1, DL.kKw_0, DL.kKw_1, DL.eKw_k, DL.truD_bl, DL.blD_bl, DL.addD_i, DL.subD_i, DL.ltI_i, DL.leI_i, DL.gtI_i, DL.geI_i, DL.negD_i, DL.intD_i, DL.intD_b, DL.max2D_i, DL.min2D_i, DL.gcdD_i, DL.lenD_t, DL.lenD_f, DL.isD_nn, DL.isD_in, DL.isD_tn, DL.isD_bn, DL.isD_sn, DL.isD_ib, DL.isD_tb, DL.isD_bb, DL.isD_sb, DL.isD_nb, DL.isnD_bb, DL.isi_i, DL.isi_b, DL.isi_t, DL.isi_s, DL.isi_n, DL.isTy_ii, DL.isTy_bi, DL.isTy_ib, DL.isTy_bb, DL.isTy_tt, DL.isTy_it, DL.isTy_bt, DL.isTy_ti, DL.isTy_is, DL.isTy_bs, DL.isTy_ss, DL.isTy_st, DL.isTy_nt, DL.isTy_ns, DL.isTy_ni, DL.isTy_ts, DL.isTy_si, DL.isTy_tb, DL.mulD_i, DL.modD_i, DL.fdivD_i, DL.powD_i, DL.tupD_k, DL.lstD_k, DL.fnD_k, DL.endR_rt, DL.endR_nx, DL.endR_ex, List.map_cons, List.map_nil, List.replicate_succ, List.replicate_zero, List.cons_append, List.nil_append, List.getElem?_cons_zero, List.getElem?_cons_succ, List.set_cons_zero, List.set_cons_succ, Nat.reduceSub, Nat.reduceAdd, List.length_cons, List.length_nil, List.any_cons, List.any_nil, Bool.or_false, Bool.or_true, Bool.not_true, Bool.not_false, Nat.reduceLeDiff, Bool.false_or, Bool.true_or, DL.trim_eq, DL.sFor_k, DL.kFor_0, DL.cSrc_k, DL.kSrc_0, DL.cApp_k, DL.kSrcA_0, DL.srcD_t, DL.srcD_f, DL.eqD_ii, DL.neD_ii, DL.ix_t0, DL.ix_t1]
  | [a, b, c, d], hl, h0, ad, _ =>
    have i0 := ix_l (i := 0) hl rfl
    have i1 := ix_l (i := 1) hl rfl
    have i2 := ix_l (i := 2) hl rfl
    have i3 := ix_l (i := 3) hl rfl
    simp only [S__law_total_0, S__law_total_1, S__law_total_2, S__law_total_3, DL.kSeq_0, DL.kSeq_1, DL.kSeq_2, DL.kSeq_3, DL.kSeq_4, DL.sSeq_k, DL.sSkip_k, DL.sBreak_k, DL.sCont_k, DL.sRetN_k, DL.kExpr_0, DL.kExpr_1, DL.sExpr_k, DL.kRet_0, DL.kRet_1, DL.sRet_k, DL.kIf_0, DL.kIf_1, DL.kIf_2, DL.sIf_k, DL.kAsg2_0, DL.kAsg_0, DL.kAsg_1, DL.sAsg_k, DL.sSet_k, DL.gN_k, DL.gsN_k, DL.kG_0, DL.gsC_k, DL.gT_k, DL.kPut4_0, DL.kPut3_0, DL.kPut3_1, DL.kPut2_0, DL.kPut2_1, DL.kPut_0, DL.kPut_1, DL.sPut_k, DL.sPar_k, DL.kVar_0, DL.eVar_k, DL.eC_k, DL.kUn_0, DL.kUn_1, DL.eUn_k, DL.eIsi_k, DL.kBin2_0, DL.kBin2_1, DL.kBin_0, DL.kBin_1, DL.eBin_k, DL.aNil_k, DL.kCons2_0, DL.kCons2_1, DL.kCons_0, DL.kCons_1, DL.aCons_k, DL.kApp_0, DL.kApp_1, DL.eApp_k, DL.kMt2_0, DL.kMt2_1, DL.kMt1_0, DL.kMt_0, DL.kMt_1, DL.eMt_k, DL.kTru_0, DL.kTru_1, DL.tTru_k, DL.kAnd_0, DL.kAnd_1, DL.kAnd_2, DL.tAndF_k, DL.kOr_0, DL.kOr_1, DL.kOr_2, DL.tOrF_k, DL.kNot_0, DL.kNot_1, DL.kNot_2, DL.tNotF_k, DL.kEIf_0, DL.kEIf_1, DL.kEIf_2, DL.eIf_k, DL.kEAnd2_0, DL.kEAnd2_1, DL.kEAnd2_2, DL.kEAnd_0, DL.kEAnd_1, DL.eAnd_k, DL.kEOr2_0, DL.kEOr2_1, DL.kEOr2_2, DL.kEOr_0, DL.kEOr_1, DL.eOr_k, DL.kENot2_0, DL.kENot2_1, DL.kENot2_2, DL.kENot_0, DL.kENot_1, DL.eNot_k, DL.kSl3_0, DL.kSl3_1, DL.kSl2_0, DL.kSl2_1, DL.kSl_0, DL.kSl_1, DL.eSl_k, DL.oNone_k, DL.kOS_0, DL.kOS_1, DL.oSome_k, DL.kKw2_0, DL.kKw2_1, DL.kKw_0, DL.kKw_1, DL.eKw_k, DL.truD_bl, DL.blD_bl, DL.addD_i, DL.subD_i, DL.ltI_i, DL.leI_i, DL.gtI_i, DL.geI_i, DL.negD_i, DL.intD_i, DL.intD_b, DL.max2D_i, DL.min2D_i, DL.gcdD_i, DL.lenD_t, DL.lenD_f, DL.isD_nn, DL.isD_in, DL.isD_tn, DL.isD_bn, DL.isD_sn, DL.isD_ib, DL.isD_tb, DL.isD_bb, DL.isD_sb, DL.isD_nb, DL.isnD_bb, DL.isi_i, DL.isi_b, DL.isi_t, DL.isi_s, DL.isi_n, DL.isTy_ii, DL.isTy_bi, DL.isTy_ib, DL.isTy_bb, DL.isTy_tt, DL.isTy_it, DL.isTy_bt, DL.isTy_ti, DL.isTy_is, DL.isTy_bs, DL.isTy_ss, DL.isTy_st, DL.isTy_nt, DL.isTy_ns, DL.isTy_ni, DL.isTy_ts, DL.isTy_si, DL.isTy_tb, DL.mulD_i, DL.modD_i, DL.fdivD_i, DL.powD_i, DL.tupD_k, DL.lstD_k, DL.fnD_k, DL.endR_rt, DL.endR_nx, DL.endR_ex, List.map_cons, List.map_nil, List.replicate_succ, List.replicate_zero, List.cons_append, List.nil_append, List.getElem?_cons_zero, List.getElem?_cons_succ, List.set_cons_zero, List.set_cons_succ, Nat.reduceSub, Nat.reduceAdd, List.length_cons, List.length_nil, List.any_cons, List.any_nil, Bool.or_false, Bool.or_true, Bool.not_true, Bool.not_false, Nat.reduceLeDiff, Bool.false_or, Bool.true_or, DL.trim_eq, DL.sFor_k, DL.kFor_0, DL.cSrc_k, DL.kSrc_0, DL.cApp_k, DL.kSrcA_0, DL.srcD_t, DL.srcD_f, DL.eqD_ii, DL.neD_ii, DL.ix_t0, DL.ix_t1, h0, show ((((0 + 1 + 1 + 1 + 1 : Nat) : Int)) == 0) = false from rfl, show ((((0 + 1 + 1 + 1 + 1 : Nat) : Int)) == 1) = false from rfl, show ((((0 + 1 + 1 + 1 + 1 : Nat) : Int)) == 2) = false from rfl, show ((((0 + 1 + 1 + 1 + 1 : Nat) : Int)) == 3) = false from rfl]
    simp only [S__law_total_4, DL.kSeq_0, DL.kSeq_1, DL.kSeq_2, DL.kSeq_3, DL.kSeq_4, DL.sSeq_k, DL.sSkip_k, DL.sBreak_k, DL.sCont_k, DL.sRetN_k, DL.kExpr_0, DL.kExpr_1, DL.sExpr_k, DL.kRet_0, DL.kRet_1, DL.sRet_k, DL.kIf_0, DL.kIf_1, DL.kIf_2, DL.sIf_k, DL.kAsg2_0, DL.kAsg_0, DL.kAsg_1, DL.sAsg_k, DL.sSet_k, DL.gN_k, DL.gsN_k, DL.kG_0, DL.gsC_k, DL.gT_k, DL.kPut4_0, DL.kPut3_0, DL.kPut3_1, DL.kPut2_0, DL.kPut2_1, DL.kPut_0, DL.kPut_1, DL.sPut_k, DL.sPar_k, DL.kVar_0, DL.eVar_k, DL.eC_k, DL.kUn_0, DL.kUn_1, DL.eUn_k, DL.eIsi_k, DL.kBin2_0, DL.kBin2_1, DL.kBin_0, DL.kBin_1, DL.eBin_k, DL.aNil_k, DL.kCons2_0, DL.kCons2_1, DL.kCons_0, DL.kCons_1, DL.aCons_k, DL.kApp_0, DL.kApp_1, DL.eApp_k, DL.kMt2_0, DL.kMt2_1, DL.kMt1_0, DL.kMt_0, DL.kMt_1, DL.eMt_k, DL.kTru_0, DL.kTru_1, DL.tTru_k, DL.kAnd_0, DL.kAnd_1, DL.kAnd_2, DL.tAndF_k, DL.kOr_0, DL.kOr_1, DL.kOr_2, DL.tOrF_k, DL.kNot_0, DL.kNot_1, DL.kNot_2, DL.tNotF_k, DL.kEIf_0, DL.kEIf_1, DL.kEIf_2, DL.eIf_k, DL.kEAnd2_0, DL.kEAnd2_1, DL.kEAnd2_2, DL.kEAnd_0, DL.kEAnd_1, DL.eAnd_k, DL.kEOr2_0, DL.kEOr2_1, DL.kEOr2_2, DL.kEOr_0, DL.kEOr_1, DL.eOr_k, DL.kENot2_0, DL.kENot2_1, DL.kENot2_2, DL.kENot_0, DL.kENot_1, DL.eNot_k, DL.kSl3_0, DL.kSl3_1, DL.kSl2_0, DL.kSl2_1, DL.kSl_0, DL.kSl_1, DL.eSl_k, DL.oNone_k, DL.kOS_0, DL.kOS_1, DL.oSome_k, DL.kKw2_0, DL.kKw2_1, DL.kKw_0, DL.kKw_1, DL.eKw_k, DL.truD_bl, DL.blD_bl, DL.addD_i, DL.subD_i, DL.ltI_i, DL.leI_i, DL.gtI_i, DL.geI_i, DL.negD_i, DL.intD_i, DL.intD_b, DL.max2D_i, DL.min2D_i, DL.gcdD_i, DL.lenD_t, DL.lenD_f, DL.isD_nn, DL.isD_in, DL.isD_tn, DL.isD_bn, DL.isD_sn, DL.isD_ib, DL.isD_tb, DL.isD_bb, DL.isD_sb, DL.isD_nb, DL.isnD_bb, DL.isi_i, DL.isi_b, DL.isi_t, DL.isi_s, DL.isi_n, DL.isTy_ii, DL.isTy_bi, DL.isTy_ib, DL.isTy_bb, DL.isTy_tt, DL.isTy_it, DL.isTy_bt, DL.isTy_ti, DL.isTy_is, DL.isTy_bs, DL.isTy_ss, DL.isTy_st, DL.isTy_nt, DL.isTy_ns, DL.isTy_ni, DL.isTy_ts, DL.isTy_si, DL.isTy_tb, DL.mulD_i, DL.modD_i, DL.fdivD_i, DL.powD_i, DL.tupD_k, DL.lstD_k, DL.fnD_k, DL.endR_rt, DL.endR_nx, DL.endR_ex, List.map_cons, List.map_nil, List.replicate_succ, List.replicate_zero, List.cons_append, List.nil_append, List.getElem?_cons_zero, List.getElem?_cons_succ, List.set_cons_zero, List.set_cons_succ, Nat.reduceSub, Nat.reduceAdd, List.length_cons, List.length_nil, List.any_cons, List.any_nil, Bool.or_false, Bool.or_true, Bool.not_true, Bool.not_false, Nat.reduceLeDiff, Bool.false_or, Bool.true_or, DL.trim_eq, DL.sFor_k, DL.kFor_0, DL.cSrc_k, DL.kSrc_0, DL.cApp_k, DL.kSrcA_0, DL.srcD_t, DL.srcD_f, DL.eqD_ii, DL.neD_ii, DL.ix_t0, DL.ix_t1, h0, show ((((0 + 1 + 1 + 1 + 1 : Nat) : Int)) == 4) = true from rfl, i0, i1, i2, i3, ga [mo a, mo b, mo c, mo d] (by simp)]
    rw [show F_added [.tup [mo a, mo b, mo c, mo d]] s = _ from ad]
    simp only [DL.kSeq_0, DL.kSeq_1, DL.kSeq_2, DL.kSeq_3, DL.kSeq_4, DL.sSeq_k, DL.sSkip_k, DL.sBreak_k, DL.sCont_k, DL.sRetN_k, DL.kExpr_0, DL.kExpr_1, DL.sExpr_k, DL.kRet_0, DL.kRet_1, DL.sRet_k, DL.kIf_0, DL.kIf_1, DL.kIf_2, DL.sIf_k, DL.kAsg2_0, DL.kAsg_0, DL.kAsg_1, DL.sAsg_k, DL.sSet_k, DL.gN_k, DL.gsN_k, DL.kG_0, DL.gsC_k, DL.gT_k, DL.kPut4_0, DL.kPut3_0, DL.kPut3_1, DL.kPut2_0, DL.kPut2_1, DL.kPut_0, DL.kPut_1, DL.sPut_k, DL.sPar_k, DL.kVar_0, DL.eVar_k, DL.eC_k, DL.kUn_0, DL.kUn_1, DL.eUn_k, DL.eIsi_k, DL.kBin2_0, DL.kBin2_1, DL.kBin_0, DL.kBin_1, DL.eBin_k, DL.aNil_k, DL.kCons2_0, DL.kCons2_1, DL.kCons_0, DL.kCons_1, DL.aCons_k, DL.kApp_0, DL.kApp_1, DL.eApp_k, DL.kMt2_0, DL.kMt2_1, DL.kMt1_0, DL.kMt_0, DL.kMt_1, DL.eMt_k, DL.kTru_0, DL.kTru_1, DL.tTru_k, DL.kAnd_0, DL.kAnd_1, DL.kAnd_2, DL.tAndF_k, DL.kOr_0, DL.kOr_1, DL.kOr_2, DL.tOrF_k, DL.kNot_0, DL.kNot_1, DL.kNot_2, DL.tNotF_k, DL.kEIf_0, DL.kEIf_1, DL.kEIf_2, DL.eIf_k, DL.kEAnd2_0, DL.kEAnd2_1, DL.kEAnd2_2, DL.kEAnd_0, DL.kEAnd_1, DL.eAnd_k, DL.kEOr2_0, DL.kEOr2_1, DL.kEOr2_2, DL.kEOr_0, DL.kEOr_1, DL.eOr_k, DL.kENot2_0, DL.kENot2_1, DL.kENot2_2, DL.kENot_0, DL.kENot_1, DL.eNot_k, DL.kSl3_0, DL.kSl3_1, DL.kSl2_0, DL.kSl2_1, DL.kSl_0, DL.kSl_1, DL.eSl_k, DL.oNone_k, DL.kOS_0, DL.kOS_1, DL.oSome_k, DL.kKw2_0, DL.kKw2_1, DL.kKw_0, DL.kKw_1, DL.eKw_k, DL.truD_bl, DL.blD_bl, DL.addD_i, DL.subD_i, DL.ltI_i, DL.leI_i, DL.gtI_i, DL.geI_i, DL.negD_i, DL.intD_i, DL.intD_b, DL.max2D_i, DL.min2D_i, DL.gcdD_i, DL.lenD_t, DL.lenD_f, DL.isD_nn, DL.isD_in, DL.isD_tn, DL.isD_bn, DL.isD_sn, DL.isD_ib, DL.isD_tb, DL.isD_bb, DL.isD_sb, DL.isD_nb, DL.isnD_bb, DL.isi_i, DL.isi_b, DL.isi_t, DL.isi_s, DL.isi_n, DL.isTy_ii, DL.isTy_bi, DL.isTy_ib, DL.isTy_bb, DL.isTy_tt, DL.isTy_it, DL.isTy_bt, DL.isTy_ti, DL.isTy_is, DL.isTy_bs, DL.isTy_ss, DL.isTy_st, DL.isTy_nt, DL.isTy_ns, DL.isTy_ni, DL.isTy_ts, DL.isTy_si, DL.isTy_tb, DL.mulD_i, DL.modD_i, DL.fdivD_i, DL.powD_i, DL.tupD_k, DL.lstD_k, DL.fnD_k, DL.endR_rt, DL.endR_nx, DL.endR_ex, List.map_cons, List.map_nil, List.replicate_succ, List.replicate_zero, List.cons_append, List.nil_append, List.getElem?_cons_zero, List.getElem?_cons_succ, List.set_cons_zero, List.set_cons_succ, Nat.reduceSub, Nat.reduceAdd, List.length_cons, List.length_nil, List.any_cons, List.any_nil, Bool.or_false, Bool.or_true, Bool.not_true, Bool.not_false, Nat.reduceLeDiff, Bool.false_or, Bool.true_or, DL.trim_eq, DL.sFor_k, DL.kFor_0, DL.cSrc_k, DL.kSrc_0, DL.cApp_k, DL.kSrcA_0, DL.srcD_t, DL.srcD_f, DL.eqD_ii, DL.neD_ii, DL.ix_t0, DL.ix_t1]
  | [a, b, c, d, e], hl, h0, ad, _ =>
    have i0 := ix_l (i := 0) hl rfl
    have i1 := ix_l (i := 1) hl rfl
    have i2 := ix_l (i := 2) hl rfl
    have i3 := ix_l (i := 3) hl rfl
    have i4 := ix_l (i := 4) hl rfl
    simp only [S__law_total_0, S__law_total_1, S__law_total_2, S__law_total_3, S__law_total_4, DL.kSeq_0, DL.kSeq_1, DL.kSeq_2, DL.kSeq_3, DL.kSeq_4, DL.sSeq_k, DL.sSkip_k, DL.sBreak_k, DL.sCont_k, DL.sRetN_k, DL.kExpr_0, DL.kExpr_1, DL.sExpr_k, DL.kRet_0, DL.kRet_1, DL.sRet_k, DL.kIf_0, DL.kIf_1, DL.kIf_2, DL.sIf_k, DL.kAsg2_0, DL.kAsg_0, DL.kAsg_1, DL.sAsg_k, DL.sSet_k, DL.gN_k, DL.gsN_k, DL.kG_0, DL.gsC_k, DL.gT_k, DL.kPut4_0, DL.kPut3_0, DL.kPut3_1, DL.kPut2_0, DL.kPut2_1, DL.kPut_0, DL.kPut_1, DL.sPut_k, DL.sPar_k, DL.kVar_0, DL.eVar_k, DL.eC_k, DL.kUn_0, DL.kUn_1, DL.eUn_k, DL.eIsi_k, DL.kBin2_0, DL.kBin2_1, DL.kBin_0, DL.kBin_1, DL.eBin_k, DL.aNil_k, DL.kCons2_0, DL.kCons2_1, DL.kCons_0, DL.kCons_1, DL.aCons_k, DL.kApp_0, DL.kApp_1, DL.eApp_k, DL.kMt2_0, DL.kMt2_1, DL.kMt1_0, DL.kMt_0, DL.kMt_1, DL.eMt_k, DL.kTru_0, DL.kTru_1, DL.tTru_k, DL.kAnd_0, DL.kAnd_1, DL.kAnd_2, DL.tAndF_k, DL.kOr_0, DL.kOr_1, DL.kOr_2, DL.tOrF_k, DL.kNot_0, DL.kNot_1, DL.kNot_2, DL.tNotF_k, DL.kEIf_0, DL.kEIf_1, DL.kEIf_2, DL.eIf_k, DL.kEAnd2_0, DL.kEAnd2_1, DL.kEAnd2_2, DL.kEAnd_0, DL.kEAnd_1, DL.eAnd_k, DL.kEOr2_0, DL.kEOr2_1, DL.kEOr2_2, DL.kEOr_0, DL.kEOr_1, DL.eOr_k, DL.kENot2_0, DL.kENot2_1, DL.kENot2_2, DL.kENot_0, DL.kENot_1, DL.eNot_k, DL.kSl3_0, DL.kSl3_1, DL.kSl2_0, DL.kSl2_1, DL.kSl_0, DL.kSl_1, DL.eSl_k, DL.oNone_k, DL.kOS_0, DL.kOS_1, DL.oSome_k, DL.kKw2_0, DL.kKw2_1, DL.kKw_0, DL.kKw_1, DL.eKw_k, DL.truD_bl, DL.blD_bl, DL.addD_i, DL.subD_i, DL.ltI_i, DL.leI_i, DL.gtI_i, DL.geI_i, DL.negD_i, DL.intD_i, DL.intD_b, DL.max2D_i, DL.min2D_i, DL.gcdD_i, DL.lenD_t, DL.lenD_f, DL.isD_nn, DL.isD_in, DL.isD_tn, DL.isD_bn, DL.isD_sn, DL.isD_ib, DL.isD_tb, DL.isD_bb, DL.isD_sb, DL.isD_nb, DL.isnD_bb, DL.isi_i, DL.isi_b, DL.isi_t, DL.isi_s, DL.isi_n, DL.isTy_ii, DL.isTy_bi, DL.isTy_ib, DL.isTy_bb, DL.isTy_tt, DL.isTy_it, DL.isTy_bt, DL.isTy_ti, DL.isTy_is, DL.isTy_bs, DL.isTy_ss, DL.isTy_st, DL.isTy_nt, DL.isTy_ns, DL.isTy_ni, DL.isTy_ts, DL.isTy_si, DL.isTy_tb, DL.mulD_i, DL.modD_i, DL.fdivD_i, DL.powD_i, DL.tupD_k, DL.lstD_k, DL.fnD_k, DL.endR_rt, DL.endR_nx, DL.endR_ex, List.map_cons, List.map_nil, List.replicate_succ, List.replicate_zero, List.cons_append, List.nil_append, List.getElem?_cons_zero, List.getElem?_cons_succ, List.set_cons_zero, List.set_cons_succ, Nat.reduceSub, Nat.reduceAdd, List.length_cons, List.length_nil, List.any_cons, List.any_nil, Bool.or_false, Bool.or_true, Bool.not_true, Bool.not_false, Nat.reduceLeDiff, Bool.false_or, Bool.true_or, DL.trim_eq, DL.sFor_k, DL.kFor_0, DL.cSrc_k, DL.kSrc_0, DL.cApp_k, DL.kSrcA_0, DL.srcD_t, DL.srcD_f, DL.eqD_ii, DL.neD_ii, DL.ix_t0, DL.ix_t1, h0, show ((((0 + 1 + 1 + 1 + 1 + 1 : Nat) : Int)) == 0) = false from rfl, show ((((0 + 1 + 1 + 1 + 1 + 1 : Nat) : Int)) == 1) = false from rfl, show ((((0 + 1 + 1 + 1 + 1 + 1 : Nat) : Int)) == 2) = false from rfl, show ((((0 + 1 + 1 + 1 + 1 + 1 : Nat) : Int)) == 3) = false from rfl, show ((((0 + 1 + 1 + 1 + 1 + 1 : Nat) : Int)) == 4) = false from rfl]
    simp only [S__law_total_5, DL.kSeq_0, DL.kSeq_1, DL.kSeq_2, DL.kSeq_3, DL.kSeq_4, DL.sSeq_k, DL.sSkip_k, DL.sBreak_k, DL.sCont_k, DL.sRetN_k, DL.kExpr_0, DL.kExpr_1, DL.sExpr_k, DL.kRet_0, DL.kRet_1, DL.sRet_k, DL.kIf_0, DL.kIf_1, DL.kIf_2, DL.sIf_k, DL.kAsg2_0, DL.kAsg_0, DL.kAsg_1, DL.sAsg_k, DL.sSet_k, DL.gN_k, DL.gsN_k, DL.kG_0, DL.gsC_k, DL.gT_k, DL.kPut4_0, DL.kPut3_0, DL.kPut3_1, DL.kPut2_0, DL.kPut2_1, DL.kPut_0, DL.kPut_1, DL.sPut_k, DL.sPar_k, DL.kVar_0, DL.eVar_k, DL.eC_k, DL.kUn_0, DL.kUn_1, DL.eUn_k, DL.eIsi_k, DL.kBin2_0, DL.kBin2_1, DL.kBin_0, DL.kBin_1, DL.eBin_k, DL.aNil_k, DL.kCons2_0, DL.kCons2_1, DL.kCons_0, DL.kCons_1, DL.aCons_k, DL.kApp_0, DL.kApp_1, DL.eApp_k, DL.kMt2_0, DL.kMt2_1, DL.kMt1_0, DL.kMt_0, DL.kMt_1, DL.eMt_k, DL.kTru_0, DL.kTru_1, DL.tTru_k, DL.kAnd_0, DL.kAnd_1, DL.kAnd_2, DL.tAndF_k, DL.kOr_0, DL.kOr_1, DL.kOr_2, DL.tOrF_k, DL.kNot_0, DL.kNot_1, DL.kNot_2, DL.tNotF_k, DL.kEIf_0, DL.kEIf_1, DL.kEIf_2, DL.eIf_k, DL.kEAnd2_0, DL.kEAnd2_1, DL.kEAnd2_2, DL.kEAnd_0, DL.kEAnd_1, DL.eAnd_k, DL.kEOr2_0, DL.kEOr2_1, DL.kEOr2_2, DL.kEOr_0, DL.kEOr_1, DL.eOr_k, DL.kENot2_0, DL.kENot2_1, DL.kENot2_2, DL.kENot_0, DL.kENot_1, DL.eNot_k, DL.kSl3_0, DL.kSl3_1, DL.kSl2_0, DL.kSl2_1, DL.kSl_0, DL.kSl_1, DL.eSl_k, DL.oNone_k, DL.kOS_0, DL.kOS_1, DL.oSome_k, DL.kKw2_0, DL.kKw2_1, DL.kKw_0, DL.kKw_1, DL.eKw_k, DL.truD_bl, DL.blD_bl, DL.addD_i, DL.subD_i, DL.ltI_i, DL.leI_i, DL.gtI_i, DL.geI_i, DL.negD_i, DL.intD_i, DL.intD_b, DL.max2D_i, DL.min2D_i, DL.gcdD_i, DL.lenD_t, DL.lenD_f, DL.isD_nn, DL.isD_in, DL.isD_tn, DL.isD_bn, DL.isD_sn, DL.isD_ib, DL.isD_tb, DL.isD_bb, DL.isD_sb, DL.isD_nb, DL.isnD_bb, DL.isi_i, DL.isi_b, DL.isi_t, DL.isi_s, DL.isi_n, DL.isTy_ii, DL.isTy_bi, DL.isTy_ib, DL.isTy_bb, DL.isTy_tt, DL.isTy_it, DL.isTy_bt, DL.isTy_ti, DL.isTy_is, DL.isTy_bs, DL.isTy_ss, DL.isTy_st, DL.isTy_nt, DL.isTy_ns, DL.isTy_ni, DL.isTy_ts, DL.isTy_si, DL.isTy_tb, DL.mulD_i, DL.modD_i, DL.fdivD_i, DL.powD_i, DL.tupD_k, DL.lstD_k, DL.fnD_k, DL.endR_rt, DL.endR_nx, DL.endR_ex, List.map_cons, List.map_nil, List.replicate_succ, List.replicate_zero, List.cons_append, List.nil_append, List.getElem?_cons_zero, List.getElem?_cons_succ, List.set_cons_zero, List.set_cons_succ, Nat.reduceSub, Nat.reduceAdd, List.length_cons, List.length_nil, List.any_cons, List.any_nil, Bool.or_false, Bool.or_true, Bool.not_true, Bool.not_false, Nat.reduceLeDiff, Bool.false_or, Bool.true_or, DL.trim_eq, DL.sFor_k, DL.kFor_0, DL.cSrc_k, DL.kSrc_0, DL.cApp_k, DL.kSrcA_0, DL.srcD_t, DL.srcD_f, DL.eqD_ii, DL.neD_ii, DL.ix_t0, DL.ix_t1, i0, i1, i2, i3, i4, ga [mo a, mo b, mo c, mo d, mo e] (by simp)]
    rw [show F_added [.tup [mo a, mo b, mo c, mo d, mo e]] s = _ from ad]
    simp only [DL.kSeq_0, DL.kSeq_1, DL.kSeq_2, DL.kSeq_3, DL.kSeq_4, DL.sSeq_k, DL.sSkip_k, DL.sBreak_k, DL.sCont_k, DL.sRetN_k, DL.kExpr_0, DL.kExpr_1, DL.sExpr_k, DL.kRet_0, DL.kRet_1, DL.sRet_k, DL.kIf_0, DL.kIf_1, DL.kIf_2, DL.sIf_k, DL.kAsg2_0, DL.kAsg_0, DL.kAsg_1, DL.sAsg_k, DL.sSet_k, DL.gN_k, DL.gsN_k, DL.kG_0, DL.gsC_k, DL.gT_k, DL.kPut4_0, DL.kPut3_0, DL.kPut3_1, DL.kPut2_0, DL.kPut2_1, DL.kPut_0, DL.kPut_1, DL.sPut_k, DL.sPar_k, DL.kVar_0, DL.eVar_k, DL.eC_k, DL.kUn_0, DL.kUn_1, DL.eUn_k, DL.eIsi_k, DL.kBin2_0, DL.kBin2_1, DL.kBin_0, DL.kBin_1, DL.eBin_k, DL.aNil_k, DL.kCons2_0, DL.kCons2_1, DL.kCons_0, DL.kCons_1, DL.aCons_k, DL.kApp_0, DL.kApp_1, DL.eApp_k, DL.kMt2_0, DL.kMt2_1, DL.kMt1_0, DL.kMt_0, DL.kMt_1, DL.eMt_k, DL.kTru_0, DL.kTru_1, DL.tTru_k, DL.kAnd_0, DL.kAnd_1, DL.kAnd_2, DL.tAndF_k, DL.kOr_0, DL.kOr_1, DL.kOr_2, DL.tOrF_k, DL.kNot_0, DL.kNot_1, DL.kNot_2, DL.tNotF_k, DL.kEIf_0, DL.kEIf_1, DL.kEIf_2, DL.eIf_k, DL.kEAnd2_0, DL.kEAnd2_1, DL.kEAnd2_2, DL.kEAnd_0, DL.kEAnd_1, DL.eAnd_k, DL.kEOr2_0, DL.kEOr2_1, DL.kEOr2_2, DL.kEOr_0, DL.kEOr_1, DL.eOr_k, DL.kENot2_0, DL.kENot2_1, DL.kENot2_2, DL.kENot_0, DL.kENot_1, DL.eNot_k, DL.kSl3_0, DL.kSl3_1, DL.kSl2_0, DL.kSl2_1, DL.kSl_0, DL.kSl_1, DL.eSl_k, DL.oNone_k, DL.kOS_0, DL.kOS_1, DL.oSome_k, DL.kKw2_0, DL.kKw2_1, DL.kKw_0, DL.kKw_1, DL.eKw_k, DL.truD_bl, DL.blD_bl, DL.addD_i, DL.subD_i, DL.ltI_i, DL.leI_i, DL.gtI_i, DL.geI_i, DL.negD_i, DL.intD_i, DL.intD_b, DL.max2D_i, DL.min2D_i, DL.gcdD_i, DL.lenD_t, DL.lenD_f, DL.isD_nn, DL.isD_in, DL.isD_tn, DL.isD_bn, DL.isD_sn, DL.isD_ib, DL.isD_tb, DL.isD_bb, DL.isD_sb, DL.isD_nb, DL.isnD_bb, DL.isi_i, DL.isi_b, DL.isi_t, DL.isi_s, DL.isi_n, DL.isTy_ii, DL.isTy_bi, DL.isTy_ib, DL.isTy_bb, DL.isTy_tt, DL.isTy_it, DL.isTy_bt, DL.isTy_ti, DL.isTy_is, DL.isTy_bs, DL.isTy_ss, DL.isTy_st, DL.isTy_nt, DL.isTy_ns, DL.isTy_ni, DL.isTy_ts, DL.isTy_si, DL.isTy_tb, DL.mulD_i, DL.modD_i, DL.fdivD_i, DL.powD_i, DL.tupD_k, DL.lstD_k, DL.fnD_k, DL.endR_rt, DL.endR_nx, DL.endR_ex, List.map_cons, List.map_nil, List.replicate_succ, List.replicate_zero, List.cons_append, List.nil_append, List.getElem?_cons_zero, List.getElem?_cons_succ, List.set_cons_zero, List.set_cons_succ, Nat.reduceSub, Nat.reduceAdd, List.length_cons, List.length_nil, List.any_cons, List.any_nil, Bool.or_false, Bool.or_true, Bool.not_true, Bool.not_false, Nat.reduceLeDiff, Bool.false_or, Bool.true_or, DL.trim_eq, DL.sFor_k, DL.kFor_0, DL.cSrc_k, DL.kSrc_0, DL.cApp_k, DL.kSrcA_0, DL.srcD_t, DL.srcD_f, DL.eqD_ii, DL.neD_ii, DL.ix_t0, DL.ix_t1]
theorem same8 (d : D) (s : Sto) (h : gd 7 d = true) : F__law_same 8 [d, d] s = .ok (.bl true) s := same_refl 7 d s h
theorem gd_mo (x : Int × Int) : gd 7 (mo x) = true := by simp [gd]
theorem L_sum_ok {i : Nat} {acc x : Int × Int} {l : Sl} (T : Tot i acc) (M : Mo x) (hi : i < 50) (s : Sto) : L__law_sum_holds_0 [l, .d (mo acc), .d (mo x)] s = .nx [l, .d (mo (sumStep acc x)), .d (mo x)] s := by
  obtain ⟨_, q1, q2, q3⟩ := T.step M
  have m1 : mulOk acc.1 x.2 = true := mulOk_b T.t6 M.b6 (by omega) (by decide)
  have m2 : mulOk x.1 acc.2 = true := mulOk_b M.t6 T.b6 (by decide) (by omega)
  have m3 : mulOk acc.2 x.2 = true := mulOk_b T.b6 M.b6 (by omega) (by decide)
  have mm := lowest_ok s q1 q2 (lt9000 q3 (by omega))
  simp only [L__law_sum_holds_0, DL.kSeq_0, DL.kSeq_1, DL.kSeq_2, DL.kSeq_3, DL.kSeq_4, DL.sSeq_k, DL.sSkip_k, DL.sBreak_k, DL.sCont_k, DL.sRetN_k, DL.kExpr_0, DL.kExpr_1, DL.sExpr_k, DL.kRet_0, DL.kRet_1, DL.sRet_k, DL.kIf_0, DL.kIf_1, DL.kIf_2, DL.sIf_k, DL.kAsg2_0, DL.kAsg_0, DL.kAsg_1, DL.sAsg_k, DL.sSet_k, DL.gN_k, DL.gsN_k, DL.kG_0, DL.gsC_k, DL.gT_k, DL.kPut4_0, DL.kPut3_0, DL.kPut3_1, DL.kPut2_0, DL.kPut2_1, DL.kPut_0, DL.kPut_1, DL.sPut_k, DL.sPar_k, DL.kVar_0, DL.eVar_k, DL.eC_k, DL.kUn_0, DL.kUn_1, DL.eUn_k, DL.eIsi_k, DL.kBin2_0, DL.kBin2_1, DL.kBin_0, DL.kBin_1, DL.eBin_k, DL.aNil_k, DL.kCons2_0, DL.kCons2_1, DL.kCons_0, DL.kCons_1, DL.aCons_k, DL.kApp_0, DL.kApp_1, DL.eApp_k, DL.kMt2_0, DL.kMt2_1, DL.kMt1_0, DL.kMt_0, DL.kMt_1, DL.eMt_k, DL.kTru_0, DL.kTru_1, DL.tTru_k, DL.kAnd_0, DL.kAnd_1, DL.kAnd_2, DL.tAndF_k, DL.kOr_0, DL.kOr_1, DL.kOr_2, DL.tOrF_k, DL.kNot_0, DL.kNot_1, DL.kNot_2, DL.tNotF_k, DL.kEIf_0, DL.kEIf_1, DL.kEIf_2, DL.eIf_k, DL.kEAnd2_0, DL.kEAnd2_1, DL.kEAnd2_2, DL.kEAnd_0, DL.kEAnd_1, DL.eAnd_k, DL.kEOr2_0, DL.kEOr2_1, DL.kEOr2_2, DL.kEOr_0, DL.kEOr_1, DL.eOr_k, DL.kENot2_0, DL.kENot2_1, DL.kENot2_2, DL.kENot_0, DL.kENot_1, DL.eNot_k, DL.kSl3_0, DL.kSl3_1, DL.kSl2_0, DL.kSl2_1, DL.kSl_0, DL.kSl_1, DL.eSl_k, DL.oNone_k, DL.kOS_0, DL.kOS_1, DL.oSome_k, DL.kKw2_0, DL.kKw2_1, DL.kKw_0, DL.kKw_1, DL.eKw_k, DL.truD_bl, DL.blD_bl, DL.addD_i, DL.subD_i, DL.ltI_i, DL.leI_i, DL.gtI_i, DL.geI_i, DL.negD_i, DL.intD_i, DL.intD_b, DL.max2D_i, DL.min2D_i, DL.gcdD_i, DL.lenD_t, DL.lenD_f, DL.isD_nn, DL.isD_in, DL.isD_tn, DL.isD_bn, DL.isD_sn, DL.isD_ib, DL.isD_tb, DL.isD_bb, DL.isD_sb, DL.isD_nb, DL.isnD_bb, DL.isi_i, DL.isi_b, DL.isi_t, DL.isi_s, DL.isi_n, DL.isTy_ii, DL.isTy_bi, DL.isTy_ib, DL.isTy_bb, DL.isTy_tt, DL.isTy_it, DL.isTy_bt, DL.isTy_ti, DL.isTy_is, DL.isTy_bs, DL.isTy_ss, DL.isTy_st, DL.isTy_nt, DL.isTy_ns, DL.isTy_ni, DL.isTy_ts, DL.isTy_si, DL.isTy_tb, DL.mulD_i, DL.modD_i, DL.fdivD_i, DL.powD_i, DL.tupD_k, DL.lstD_k, DL.fnD_k, DL.endR_rt, DL.endR_nx, DL.endR_ex, List.map_cons, List.map_nil, List.replicate_succ, List.replicate_zero, List.cons_append, List.nil_append, List.getElem?_cons_zero, List.getElem?_cons_succ, List.set_cons_zero, List.set_cons_succ, Nat.reduceSub, Nat.reduceAdd, List.length_cons, List.length_nil, List.any_cons, List.any_nil, Bool.or_false, Bool.or_true, Bool.not_true, Bool.not_false, Nat.reduceLeDiff, Bool.false_or, Bool.true_or, DL.trim_eq, DL.sFor_k, DL.kFor_0, DL.cSrc_k, DL.kSrc_0, DL.cApp_k, DL.kSrcA_0, DL.srcD_t, DL.srcD_f, DL.eqD_ii, DL.neD_ii, DL.ix_t0, DL.ix_t1, mulD_i _ _ _ m1, mulD_i _ _ _ m2, mulD_i _ _ _ m3, mm]
  rfl
theorem sum_ok {l : Nat} {xs : List (Int × Int)} {s : Sto} (hl : s[l]? = some (.lst (xs.map mo))) (h : ∀ x ∈ xs, Mo x) (hz : xs.length ≤ 5) : F__law_sum_holds [.loc l] s = .ok (.bl true) s := by
  obtain ⟨ρ', s', e, hI⟩ := for_inv (S := .cell l (xs.map mo)) (g := gN 2) (F := L__law_sum_holds_0) (fun r ρ s1 => ∃ ys zs : List (Int × Int), ∃ c : Sl, xs = ys ++ zs ∧ r = zs.map mo ∧ s1 = s ∧ ρ = [.d (.loc l), .d (mo (ys.foldl sumStep (0, 1))), c] ∧ Tot ys.length (ys.foldl sumStep (0, 1)))
    (fun _ _ s1 ⟨_, _, _, _, _, e, _⟩ => by rw [e]; exact hl) (fun x r ρ s1 ⟨ys, zs, c, e1, e2, e3, e4, T⟩ => by
      cases zs with
      | nil => cases e2
      | cons z zs =>
        rw [List.map_cons] at e2
        obtain ⟨e5, e6⟩ := List.cons.inj e2
        subst e5 e6 e3 e4
        have M : Mo z := h z (by rw [e1]; simp)
        have hn : ys.length < 50 := by rw [e1] at hz; simp at hz; omega
        refine ⟨_, rfl, _, _, .inl (L_sum_ok T M hn _), ys ++ [z], zs, .d (mo z), by rw [e1]; simp, rfl, rfl, ?_, ?_⟩
        · rw [List.foldl_append]; rfl
        · rw [List.foldl_append, List.length_append]
          exact (T.step M).1) (ρ := [.d (.loc l), .d (mo (0, 1)), .un]) (s := s) ⟨[], xs, .un, rfl, rfl, rfl, rfl, Tot.zero⟩
  obtain ⟨ys, zs, c, e1, e2, e3, e4, _⟩ := hI
  have ez : zs = [] := by
    cases zs with
    | nil => rfl
    | cons => cases e2
  subst ez e3 e4
  rw [List.append_nil] at e1
  subst e1
  simp only [F__law_sum_holds, B__law_sum_holds, S__law_sum_holds_0, S__law_sum_holds_1, DL.kSeq_0, DL.kSeq_1, DL.kSeq_2, DL.kSeq_3, DL.kSeq_4, DL.sSeq_k, DL.sSkip_k, DL.sBreak_k, DL.sCont_k, DL.sRetN_k, DL.kExpr_0, DL.kExpr_1, DL.sExpr_k, DL.kRet_0, DL.kRet_1, DL.sRet_k, DL.kIf_0, DL.kIf_1, DL.kIf_2, DL.sIf_k, DL.kAsg2_0, DL.kAsg_0, DL.kAsg_1, DL.sAsg_k, DL.sSet_k, DL.gN_k, DL.gsN_k, DL.kG_0, DL.gsC_k, DL.gT_k, DL.kPut4_0, DL.kPut3_0, DL.kPut3_1, DL.kPut2_0, DL.kPut2_1, DL.kPut_0, DL.kPut_1, DL.sPut_k, DL.sPar_k, DL.kVar_0, DL.eVar_k, DL.eC_k, DL.kUn_0, DL.kUn_1, DL.eUn_k, DL.eIsi_k, DL.kBin2_0, DL.kBin2_1, DL.kBin_0, DL.kBin_1, DL.eBin_k, DL.aNil_k, DL.kCons2_0, DL.kCons2_1, DL.kCons_0, DL.kCons_1, DL.aCons_k, DL.kApp_0, DL.kApp_1, DL.eApp_k, DL.kMt2_0, DL.kMt2_1, DL.kMt1_0, DL.kMt_0, DL.kMt_1, DL.eMt_k, DL.kTru_0, DL.kTru_1, DL.tTru_k, DL.kAnd_0, DL.kAnd_1, DL.kAnd_2, DL.tAndF_k, DL.kOr_0, DL.kOr_1, DL.kOr_2, DL.tOrF_k, DL.kNot_0, DL.kNot_1, DL.kNot_2, DL.tNotF_k, DL.kEIf_0, DL.kEIf_1, DL.kEIf_2, DL.eIf_k, DL.kEAnd2_0, DL.kEAnd2_1, DL.kEAnd2_2, DL.kEAnd_0, DL.kEAnd_1, DL.eAnd_k, DL.kEOr2_0, DL.kEOr2_1, DL.kEOr2_2, DL.kEOr_0, DL.kEOr_1, DL.eOr_k, DL.kENot2_0, DL.kENot2_1, DL.kENot2_2, DL.kENot_0, DL.kENot_1, DL.eNot_k, DL.kSl3_0, DL.kSl3_1, DL.kSl2_0, DL.kSl2_1, DL.kSl_0, DL.kSl_1, DL.eSl_k, DL.oNone_k, DL.kOS_0, DL.kOS_1, DL.oSome_k, DL.kKw2_0, DL.kKw2_1, DL.kKw_0, DL.kKw_1, DL.eKw_k, DL.truD_bl, DL.blD_bl, DL.addD_i, DL.subD_i, DL.ltI_i, DL.leI_i, DL.gtI_i, DL.geI_i, DL.negD_i, DL.intD_i, DL.intD_b, DL.max2D_i, DL.min2D_i, DL.gcdD_i, DL.lenD_t, DL.lenD_f, DL.isD_nn, DL.isD_in, DL.isD_tn, DL.isD_bn, DL.isD_sn, DL.isD_ib, DL.isD_tb, DL.isD_bb, DL.isD_sb, DL.isD_nb, DL.isnD_bb, DL.isi_i, DL.isi_b, DL.isi_t, DL.isi_s, DL.isi_n, DL.isTy_ii, DL.isTy_bi, DL.isTy_ib, DL.isTy_bb, DL.isTy_tt, DL.isTy_it, DL.isTy_bt, DL.isTy_ti, DL.isTy_is, DL.isTy_bs, DL.isTy_ss, DL.isTy_st, DL.isTy_nt, DL.isTy_ns, DL.isTy_ni, DL.isTy_ts, DL.isTy_si, DL.isTy_tb, DL.mulD_i, DL.modD_i, DL.fdivD_i, DL.powD_i, DL.tupD_k, DL.lstD_k, DL.fnD_k, DL.endR_rt, DL.endR_nx, DL.endR_ex, List.map_cons, List.map_nil, List.replicate_succ, List.replicate_zero, List.cons_append, List.nil_append, List.getElem?_cons_zero, List.getElem?_cons_succ, List.set_cons_zero, List.set_cons_succ, Nat.reduceSub, Nat.reduceAdd, List.length_cons, List.length_nil, List.any_cons, List.any_nil, Bool.or_false, Bool.or_true, Bool.not_true, Bool.not_false, Nat.reduceLeDiff, Bool.false_or, Bool.true_or, DL.trim_eq, DL.sFor_k, DL.kFor_0, DL.cSrc_k, DL.kSrc_0, DL.cApp_k, DL.kSrcA_0, DL.srcD_t, DL.srcD_f, DL.eqD_ii, DL.neD_ii, DL.ix_t0, DL.ix_t1, srcD_l hl]
  rw [e]
  simp only [S__law_sum_holds_2, DL.kSeq_0, DL.kSeq_1, DL.kSeq_2, DL.kSeq_3, DL.kSeq_4, DL.sSeq_k, DL.sSkip_k, DL.sBreak_k, DL.sCont_k, DL.sRetN_k, DL.kExpr_0, DL.kExpr_1, DL.sExpr_k, DL.kRet_0, DL.kRet_1, DL.sRet_k, DL.kIf_0, DL.kIf_1, DL.kIf_2, DL.sIf_k, DL.kAsg2_0, DL.kAsg_0, DL.kAsg_1, DL.sAsg_k, DL.sSet_k, DL.gN_k, DL.gsN_k, DL.kG_0, DL.gsC_k, DL.gT_k, DL.kPut4_0, DL.kPut3_0, DL.kPut3_1, DL.kPut2_0, DL.kPut2_1, DL.kPut_0, DL.kPut_1, DL.sPut_k, DL.sPar_k, DL.kVar_0, DL.eVar_k, DL.eC_k, DL.kUn_0, DL.kUn_1, DL.eUn_k, DL.eIsi_k, DL.kBin2_0, DL.kBin2_1, DL.kBin_0, DL.kBin_1, DL.eBin_k, DL.aNil_k, DL.kCons2_0, DL.kCons2_1, DL.kCons_0, DL.kCons_1, DL.aCons_k, DL.kApp_0, DL.kApp_1, DL.eApp_k, DL.kMt2_0, DL.kMt2_1, DL.kMt1_0, DL.kMt_0, DL.kMt_1, DL.eMt_k, DL.kTru_0, DL.kTru_1, DL.tTru_k, DL.kAnd_0, DL.kAnd_1, DL.kAnd_2, DL.tAndF_k, DL.kOr_0, DL.kOr_1, DL.kOr_2, DL.tOrF_k, DL.kNot_0, DL.kNot_1, DL.kNot_2, DL.tNotF_k, DL.kEIf_0, DL.kEIf_1, DL.kEIf_2, DL.eIf_k, DL.kEAnd2_0, DL.kEAnd2_1, DL.kEAnd2_2, DL.kEAnd_0, DL.kEAnd_1, DL.eAnd_k, DL.kEOr2_0, DL.kEOr2_1, DL.kEOr2_2, DL.kEOr_0, DL.kEOr_1, DL.eOr_k, DL.kENot2_0, DL.kENot2_1, DL.kENot2_2, DL.kENot_0, DL.kENot_1, DL.eNot_k, DL.kSl3_0, DL.kSl3_1, DL.kSl2_0, DL.kSl2_1, DL.kSl_0, DL.kSl_1, DL.eSl_k, DL.oNone_k, DL.kOS_0, DL.kOS_1, DL.oSome_k, DL.kKw2_0, DL.kKw2_1, DL.kKw_0, DL.kKw_1, DL.eKw_k, DL.truD_bl, DL.blD_bl, DL.addD_i, DL.subD_i, DL.ltI_i, DL.leI_i, DL.gtI_i, DL.geI_i, DL.negD_i, DL.intD_i, DL.intD_b, DL.max2D_i, DL.min2D_i, DL.gcdD_i, DL.lenD_t, DL.lenD_f, DL.isD_nn, DL.isD_in, DL.isD_tn, DL.isD_bn, DL.isD_sn, DL.isD_ib, DL.isD_tb, DL.isD_bb, DL.isD_sb, DL.isD_nb, DL.isnD_bb, DL.isi_i, DL.isi_b, DL.isi_t, DL.isi_s, DL.isi_n, DL.isTy_ii, DL.isTy_bi, DL.isTy_ib, DL.isTy_bb, DL.isTy_tt, DL.isTy_it, DL.isTy_bt, DL.isTy_ti, DL.isTy_is, DL.isTy_bs, DL.isTy_ss, DL.isTy_st, DL.isTy_nt, DL.isTy_ns, DL.isTy_ni, DL.isTy_ts, DL.isTy_si, DL.isTy_tb, DL.mulD_i, DL.modD_i, DL.fdivD_i, DL.powD_i, DL.tupD_k, DL.lstD_k, DL.fnD_k, DL.endR_rt, DL.endR_nx, DL.endR_ex, List.map_cons, List.map_nil, List.replicate_succ, List.replicate_zero, List.cons_append, List.nil_append, List.getElem?_cons_zero, List.getElem?_cons_succ, List.set_cons_zero, List.set_cons_succ, Nat.reduceSub, Nat.reduceAdd, List.length_cons, List.length_nil, List.any_cons, List.any_nil, Bool.or_false, Bool.or_true, Bool.not_true, Bool.not_false, Nat.reduceLeDiff, Bool.false_or, Bool.true_or, DL.trim_eq, DL.sFor_k, DL.kFor_0, DL.cSrc_k, DL.kSrc_0, DL.cApp_k, DL.kSrcA_0, DL.srcD_t, DL.srcD_f, DL.eqD_ii, DL.neD_ii, DL.ix_t0, DL.ix_t1, total_ok hl h hz, same8 _ _ (gd_mo _)]
theorem two_ok {f g : Int × Int} (F : Mo f) (G : Mo g) (s : Sto) : F__law_two_hold [mo f, mo g] s = .ok (.bl true) s := by
  obtain ⟨b1, b2⟩ := F.b22 G
  have n1 := F.n12 G
  have n2 := G.n12 F
  have m0 : mulOk 2 (f.2 * g.2) = true := mulOk_b (m := 2) (by decide) b2 (by decide) (by decide)
  have l1 : (2 * (f.2 * g.2)).natAbs < 2 ^ 130 := natAbs_mul_lt (m := 2) (by decide) b2
  have hw := halfway_ok F G s
  have lw := lowest_ok s (a := f.1 * g.2 + g.1 * f.2) (b := 2 * (f.2 * g.2)) (by omega) (by omega) (lt9000 l1 (by decide))
  rw [Int.mul_assoc] at hw
  have d1 : dif g f = f.1 * g.2 - g.1 * f.2 := rfl
  have d2 : dif f g = g.1 * f.2 - f.1 * g.2 := rfl
  have sl : ∀ a b : Int, F__law_same 8 [loD a b, loD a b] s = .ok (.bl true) s := fun a b => same8 _ _ (gd_mo (low2 a b))
  have cp := compared_ok F G s
  have order : (if dif g f < 0 then (-1 : Int) else if 0 < dif g f then 1 else 0) = (if decide (g.1 * f.2 < f.1 * g.2) = true then 1 else 0) - (if decide (f.1 * g.2 < g.1 * f.2) = true then 1 else 0) := by
    simp only [decide_eq_true_eq]
    rw [d1]
    by_cases h1 : f.1 * g.2 - g.1 * f.2 < 0
    · rw [if_pos h1, if_neg (by omega), if_pos (by omega)]; rfl
    · rw [if_neg h1]
      by_cases h2 : 0 < f.1 * g.2 - g.1 * f.2
      · rw [if_pos h2, if_pos (by omega), if_neg (by omega)]; rfl
      · rw [if_neg h2, if_neg (by omega), if_neg (by omega)]; rfl
  obtain ⟨o, ho⟩ : ∃ o, o = (if dif g f < 0 then (-1 : Int) else if 0 < dif g f then 1 else 0) := ⟨_, rfl⟩
  rw [← ho] at cp order
  have so : F__law_same 8 [.int o, .int o] s = .ok (.bl true) s := same8 _ _ (by simp [gd])
  simp only [F__law_two_hold, B__law_two_hold, DL.kSeq_0, DL.kSeq_1, DL.kSeq_2, DL.kSeq_3, DL.kSeq_4, DL.sSeq_k, DL.sSkip_k, DL.sBreak_k, DL.sCont_k, DL.sRetN_k, DL.kExpr_0, DL.kExpr_1, DL.sExpr_k, DL.kRet_0, DL.kRet_1, DL.sRet_k, DL.kIf_0, DL.kIf_1, DL.kIf_2, DL.sIf_k, DL.kAsg2_0, DL.kAsg_0, DL.kAsg_1, DL.sAsg_k, DL.sSet_k, DL.gN_k, DL.gsN_k, DL.kG_0, DL.gsC_k, DL.gT_k, DL.kPut4_0, DL.kPut3_0, DL.kPut3_1, DL.kPut2_0, DL.kPut2_1, DL.kPut_0, DL.kPut_1, DL.sPut_k, DL.sPar_k, DL.kVar_0, DL.eVar_k, DL.eC_k, DL.kUn_0, DL.kUn_1, DL.eUn_k, DL.eIsi_k, DL.kBin2_0, DL.kBin2_1, DL.kBin_0, DL.kBin_1, DL.eBin_k, DL.aNil_k, DL.kCons2_0, DL.kCons2_1, DL.kCons_0, DL.kCons_1, DL.aCons_k, DL.kApp_0, DL.kApp_1, DL.eApp_k, DL.kMt2_0, DL.kMt2_1, DL.kMt1_0, DL.kMt_0, DL.kMt_1, DL.eMt_k, DL.kTru_0, DL.kTru_1, DL.tTru_k, DL.kAnd_0, DL.kAnd_1, DL.kAnd_2, DL.tAndF_k, DL.kOr_0, DL.kOr_1, DL.kOr_2, DL.tOrF_k, DL.kNot_0, DL.kNot_1, DL.kNot_2, DL.tNotF_k, DL.kEIf_0, DL.kEIf_1, DL.kEIf_2, DL.eIf_k, DL.kEAnd2_0, DL.kEAnd2_1, DL.kEAnd2_2, DL.kEAnd_0, DL.kEAnd_1, DL.eAnd_k, DL.kEOr2_0, DL.kEOr2_1, DL.kEOr2_2, DL.kEOr_0, DL.kEOr_1, DL.eOr_k, DL.kENot2_0, DL.kENot2_1, DL.kENot2_2, DL.kENot_0, DL.kENot_1, DL.eNot_k, DL.kSl3_0, DL.kSl3_1, DL.kSl2_0, DL.kSl2_1, DL.kSl_0, DL.kSl_1, DL.eSl_k, DL.oNone_k, DL.kOS_0, DL.kOS_1, DL.oSome_k, DL.kKw2_0, DL.kKw2_1, DL.kKw_0, DL.kKw_1, DL.eKw_k, DL.truD_bl, DL.blD_bl, DL.addD_i, DL.subD_i, DL.ltI_i, DL.leI_i, DL.gtI_i, DL.geI_i, DL.negD_i, DL.intD_i, DL.intD_b, DL.max2D_i, DL.min2D_i, DL.gcdD_i, DL.lenD_t, DL.lenD_f, DL.isD_nn, DL.isD_in, DL.isD_tn, DL.isD_bn, DL.isD_sn, DL.isD_ib, DL.isD_tb, DL.isD_bb, DL.isD_sb, DL.isD_nb, DL.isnD_bb, DL.isi_i, DL.isi_b, DL.isi_t, DL.isi_s, DL.isi_n, DL.isTy_ii, DL.isTy_bi, DL.isTy_ib, DL.isTy_bb, DL.isTy_tt, DL.isTy_it, DL.isTy_bt, DL.isTy_ti, DL.isTy_is, DL.isTy_bs, DL.isTy_ss, DL.isTy_st, DL.isTy_nt, DL.isTy_ns, DL.isTy_ni, DL.isTy_ts, DL.isTy_si, DL.isTy_tb, DL.mulD_i, DL.modD_i, DL.fdivD_i, DL.powD_i, DL.tupD_k, DL.lstD_k, DL.fnD_k, DL.endR_rt, DL.endR_nx, DL.endR_ex, List.map_cons, List.map_nil, List.replicate_succ, List.replicate_zero, List.cons_append, List.nil_append, List.getElem?_cons_zero, List.getElem?_cons_succ, List.set_cons_zero, List.set_cons_succ, Nat.reduceSub, Nat.reduceAdd, List.length_cons, List.length_nil, List.any_cons, List.any_nil, Bool.or_false, Bool.or_true, Bool.not_true, Bool.not_false, Nat.reduceLeDiff, Bool.false_or, Bool.true_or, DL.trim_eq, DL.sFor_k, DL.kFor_0, DL.cSrc_k, DL.kSrc_0, DL.cApp_k, DL.kSrcA_0, DL.srcD_t, DL.srcD_f, DL.eqD_ii, DL.neD_ii, DL.ix_t0, DL.ix_t1]
  simp only [S__law_two_hold_0, S__law_two_hold_1, S__law_two_hold_2, S__law_two_hold_3, DL.kSeq_0, DL.kSeq_1, DL.kSeq_2, DL.kSeq_3, DL.kSeq_4, DL.sSeq_k, DL.sSkip_k, DL.sBreak_k, DL.sCont_k, DL.sRetN_k, DL.kExpr_0, DL.kExpr_1, DL.sExpr_k, DL.kRet_0, DL.kRet_1, DL.sRet_k, DL.kIf_0, DL.kIf_1, DL.kIf_2, DL.sIf_k, DL.kAsg2_0, DL.kAsg_0, DL.kAsg_1, DL.sAsg_k, DL.sSet_k, DL.gN_k, DL.gsN_k, DL.kG_0, DL.gsC_k, DL.gT_k, DL.kPut4_0, DL.kPut3_0, DL.kPut3_1, DL.kPut2_0, DL.kPut2_1, DL.kPut_0, DL.kPut_1, DL.sPut_k, DL.sPar_k, DL.kVar_0, DL.eVar_k, DL.eC_k, DL.kUn_0, DL.kUn_1, DL.eUn_k, DL.eIsi_k, DL.kBin2_0, DL.kBin2_1, DL.kBin_0, DL.kBin_1, DL.eBin_k, DL.aNil_k, DL.kCons2_0, DL.kCons2_1, DL.kCons_0, DL.kCons_1, DL.aCons_k, DL.kApp_0, DL.kApp_1, DL.eApp_k, DL.kMt2_0, DL.kMt2_1, DL.kMt1_0, DL.kMt_0, DL.kMt_1, DL.eMt_k, DL.kTru_0, DL.kTru_1, DL.tTru_k, DL.kAnd_0, DL.kAnd_1, DL.kAnd_2, DL.tAndF_k, DL.kOr_0, DL.kOr_1, DL.kOr_2, DL.tOrF_k, DL.kNot_0, DL.kNot_1, DL.kNot_2, DL.tNotF_k, DL.kEIf_0, DL.kEIf_1, DL.kEIf_2, DL.eIf_k, DL.kEAnd2_0, DL.kEAnd2_1, DL.kEAnd2_2, DL.kEAnd_0, DL.kEAnd_1, DL.eAnd_k, DL.kEOr2_0, DL.kEOr2_1, DL.kEOr2_2, DL.kEOr_0, DL.kEOr_1, DL.eOr_k, DL.kENot2_0, DL.kENot2_1, DL.kENot2_2, DL.kENot_0, DL.kENot_1, DL.eNot_k, DL.kSl3_0, DL.kSl3_1, DL.kSl2_0, DL.kSl2_1, DL.kSl_0, DL.kSl_1, DL.eSl_k, DL.oNone_k, DL.kOS_0, DL.kOS_1, DL.oSome_k, DL.kKw2_0, DL.kKw2_1, DL.kKw_0, DL.kKw_1, DL.eKw_k, DL.truD_bl, DL.blD_bl, DL.addD_i, DL.subD_i, DL.ltI_i, DL.leI_i, DL.gtI_i, DL.geI_i, DL.negD_i, DL.intD_i, DL.intD_b, DL.max2D_i, DL.min2D_i, DL.gcdD_i, DL.lenD_t, DL.lenD_f, DL.isD_nn, DL.isD_in, DL.isD_tn, DL.isD_bn, DL.isD_sn, DL.isD_ib, DL.isD_tb, DL.isD_bb, DL.isD_sb, DL.isD_nb, DL.isnD_bb, DL.isi_i, DL.isi_b, DL.isi_t, DL.isi_s, DL.isi_n, DL.isTy_ii, DL.isTy_bi, DL.isTy_ib, DL.isTy_bb, DL.isTy_tt, DL.isTy_it, DL.isTy_bt, DL.isTy_ti, DL.isTy_is, DL.isTy_bs, DL.isTy_ss, DL.isTy_st, DL.isTy_nt, DL.isTy_ns, DL.isTy_ni, DL.isTy_ts, DL.isTy_si, DL.isTy_tb, DL.mulD_i, DL.modD_i, DL.fdivD_i, DL.powD_i, DL.tupD_k, DL.lstD_k, DL.fnD_k, DL.endR_rt, DL.endR_nx, DL.endR_ex, List.map_cons, List.map_nil, List.replicate_succ, List.replicate_zero, List.cons_append, List.nil_append, List.getElem?_cons_zero, List.getElem?_cons_succ, List.set_cons_zero, List.set_cons_succ, Nat.reduceSub, Nat.reduceAdd, List.length_cons, List.length_nil, List.any_cons, List.any_nil, Bool.or_false, Bool.or_true, Bool.not_true, Bool.not_false, Nat.reduceLeDiff, Bool.false_or, Bool.true_or, DL.trim_eq, DL.sFor_k, DL.kFor_0, DL.cSrc_k, DL.kSrc_0, DL.cApp_k, DL.kSrcA_0, DL.srcD_t, DL.srcD_f, DL.eqD_ii, DL.neD_ii, DL.ix_t0, DL.ix_t1, mulD_i _ _ _ (F.m12 G), mulD_i _ _ _ (G.m12 F), mulD_i _ _ _ (F.m22 G), ← order]
  simp only [S__law_two_hold_4, DL.kSeq_0, DL.kSeq_1, DL.kSeq_2, DL.kSeq_3, DL.kSeq_4, DL.sSeq_k, DL.sSkip_k, DL.sBreak_k, DL.sCont_k, DL.sRetN_k, DL.kExpr_0, DL.kExpr_1, DL.sExpr_k, DL.kRet_0, DL.kRet_1, DL.sRet_k, DL.kIf_0, DL.kIf_1, DL.kIf_2, DL.sIf_k, DL.kAsg2_0, DL.kAsg_0, DL.kAsg_1, DL.sAsg_k, DL.sSet_k, DL.gN_k, DL.gsN_k, DL.kG_0, DL.gsC_k, DL.gT_k, DL.kPut4_0, DL.kPut3_0, DL.kPut3_1, DL.kPut2_0, DL.kPut2_1, DL.kPut_0, DL.kPut_1, DL.sPut_k, DL.sPar_k, DL.kVar_0, DL.eVar_k, DL.eC_k, DL.kUn_0, DL.kUn_1, DL.eUn_k, DL.eIsi_k, DL.kBin2_0, DL.kBin2_1, DL.kBin_0, DL.kBin_1, DL.eBin_k, DL.aNil_k, DL.kCons2_0, DL.kCons2_1, DL.kCons_0, DL.kCons_1, DL.aCons_k, DL.kApp_0, DL.kApp_1, DL.eApp_k, DL.kMt2_0, DL.kMt2_1, DL.kMt1_0, DL.kMt_0, DL.kMt_1, DL.eMt_k, DL.kTru_0, DL.kTru_1, DL.tTru_k, DL.kAnd_0, DL.kAnd_1, DL.kAnd_2, DL.tAndF_k, DL.kOr_0, DL.kOr_1, DL.kOr_2, DL.tOrF_k, DL.kNot_0, DL.kNot_1, DL.kNot_2, DL.tNotF_k, DL.kEIf_0, DL.kEIf_1, DL.kEIf_2, DL.eIf_k, DL.kEAnd2_0, DL.kEAnd2_1, DL.kEAnd2_2, DL.kEAnd_0, DL.kEAnd_1, DL.eAnd_k, DL.kEOr2_0, DL.kEOr2_1, DL.kEOr2_2, DL.kEOr_0, DL.kEOr_1, DL.eOr_k, DL.kENot2_0, DL.kENot2_1, DL.kENot2_2, DL.kENot_0, DL.kENot_1, DL.eNot_k, DL.kSl3_0, DL.kSl3_1, DL.kSl2_0, DL.kSl2_1, DL.kSl_0, DL.kSl_1, DL.eSl_k, DL.oNone_k, DL.kOS_0, DL.kOS_1, DL.oSome_k, DL.kKw2_0, DL.kKw2_1, DL.kKw_0, DL.kKw_1, DL.eKw_k, DL.truD_bl, DL.blD_bl, DL.addD_i, DL.subD_i, DL.ltI_i, DL.leI_i, DL.gtI_i, DL.geI_i, DL.negD_i, DL.intD_i, DL.intD_b, DL.max2D_i, DL.min2D_i, DL.gcdD_i, DL.lenD_t, DL.lenD_f, DL.isD_nn, DL.isD_in, DL.isD_tn, DL.isD_bn, DL.isD_sn, DL.isD_ib, DL.isD_tb, DL.isD_bb, DL.isD_sb, DL.isD_nb, DL.isnD_bb, DL.isi_i, DL.isi_b, DL.isi_t, DL.isi_s, DL.isi_n, DL.isTy_ii, DL.isTy_bi, DL.isTy_ib, DL.isTy_bb, DL.isTy_tt, DL.isTy_it, DL.isTy_bt, DL.isTy_ti, DL.isTy_is, DL.isTy_bs, DL.isTy_ss, DL.isTy_st, DL.isTy_nt, DL.isTy_ns, DL.isTy_ni, DL.isTy_ts, DL.isTy_si, DL.isTy_tb, DL.mulD_i, DL.modD_i, DL.fdivD_i, DL.powD_i, DL.tupD_k, DL.lstD_k, DL.fnD_k, DL.endR_rt, DL.endR_nx, DL.endR_ex, List.map_cons, List.map_nil, List.replicate_succ, List.replicate_zero, List.cons_append, List.nil_append, List.getElem?_cons_zero, List.getElem?_cons_succ, List.set_cons_zero, List.set_cons_succ, Nat.reduceSub, Nat.reduceAdd, List.length_cons, List.length_nil, List.any_cons, List.any_nil, Bool.or_false, Bool.or_true, Bool.not_true, Bool.not_false, Nat.reduceLeDiff, Bool.false_or, Bool.true_or, DL.trim_eq, DL.sFor_k, DL.kFor_0, DL.cSrc_k, DL.kSrc_0, DL.cApp_k, DL.kSrcA_0, DL.srcD_t, DL.srcD_f, DL.eqD_ii, DL.neD_ii, DL.ix_t0, DL.ix_t1, cp, so]
  simp only [S__law_two_hold_5, DL.kSeq_0, DL.kSeq_1, DL.kSeq_2, DL.kSeq_3, DL.kSeq_4, DL.sSeq_k, DL.sSkip_k, DL.sBreak_k, DL.sCont_k, DL.sRetN_k, DL.kExpr_0, DL.kExpr_1, DL.sExpr_k, DL.kRet_0, DL.kRet_1, DL.sRet_k, DL.kIf_0, DL.kIf_1, DL.kIf_2, DL.sIf_k, DL.kAsg2_0, DL.kAsg_0, DL.kAsg_1, DL.sAsg_k, DL.sSet_k, DL.gN_k, DL.gsN_k, DL.kG_0, DL.gsC_k, DL.gT_k, DL.kPut4_0, DL.kPut3_0, DL.kPut3_1, DL.kPut2_0, DL.kPut2_1, DL.kPut_0, DL.kPut_1, DL.sPut_k, DL.sPar_k, DL.kVar_0, DL.eVar_k, DL.eC_k, DL.kUn_0, DL.kUn_1, DL.eUn_k, DL.eIsi_k, DL.kBin2_0, DL.kBin2_1, DL.kBin_0, DL.kBin_1, DL.eBin_k, DL.aNil_k, DL.kCons2_0, DL.kCons2_1, DL.kCons_0, DL.kCons_1, DL.aCons_k, DL.kApp_0, DL.kApp_1, DL.eApp_k, DL.kMt2_0, DL.kMt2_1, DL.kMt1_0, DL.kMt_0, DL.kMt_1, DL.eMt_k, DL.kTru_0, DL.kTru_1, DL.tTru_k, DL.kAnd_0, DL.kAnd_1, DL.kAnd_2, DL.tAndF_k, DL.kOr_0, DL.kOr_1, DL.kOr_2, DL.tOrF_k, DL.kNot_0, DL.kNot_1, DL.kNot_2, DL.tNotF_k, DL.kEIf_0, DL.kEIf_1, DL.kEIf_2, DL.eIf_k, DL.kEAnd2_0, DL.kEAnd2_1, DL.kEAnd2_2, DL.kEAnd_0, DL.kEAnd_1, DL.eAnd_k, DL.kEOr2_0, DL.kEOr2_1, DL.kEOr2_2, DL.kEOr_0, DL.kEOr_1, DL.eOr_k, DL.kENot2_0, DL.kENot2_1, DL.kENot2_2, DL.kENot_0, DL.kENot_1, DL.eNot_k, DL.kSl3_0, DL.kSl3_1, DL.kSl2_0, DL.kSl2_1, DL.kSl_0, DL.kSl_1, DL.eSl_k, DL.oNone_k, DL.kOS_0, DL.kOS_1, DL.oSome_k, DL.kKw2_0, DL.kKw2_1, DL.kKw_0, DL.kKw_1, DL.eKw_k, DL.truD_bl, DL.blD_bl, DL.addD_i, DL.subD_i, DL.ltI_i, DL.leI_i, DL.gtI_i, DL.geI_i, DL.negD_i, DL.intD_i, DL.intD_b, DL.max2D_i, DL.min2D_i, DL.gcdD_i, DL.lenD_t, DL.lenD_f, DL.isD_nn, DL.isD_in, DL.isD_tn, DL.isD_bn, DL.isD_sn, DL.isD_ib, DL.isD_tb, DL.isD_bb, DL.isD_sb, DL.isD_nb, DL.isnD_bb, DL.isi_i, DL.isi_b, DL.isi_t, DL.isi_s, DL.isi_n, DL.isTy_ii, DL.isTy_bi, DL.isTy_ib, DL.isTy_bb, DL.isTy_tt, DL.isTy_it, DL.isTy_bt, DL.isTy_ti, DL.isTy_is, DL.isTy_bs, DL.isTy_ss, DL.isTy_st, DL.isTy_nt, DL.isTy_ns, DL.isTy_ni, DL.isTy_ts, DL.isTy_si, DL.isTy_tb, DL.mulD_i, DL.modD_i, DL.fdivD_i, DL.powD_i, DL.tupD_k, DL.lstD_k, DL.fnD_k, DL.endR_rt, DL.endR_nx, DL.endR_ex, List.map_cons, List.map_nil, List.replicate_succ, List.replicate_zero, List.cons_append, List.nil_append, List.getElem?_cons_zero, List.getElem?_cons_succ, List.set_cons_zero, List.set_cons_succ, Nat.reduceSub, Nat.reduceAdd, List.length_cons, List.length_nil, List.any_cons, List.any_nil, Bool.or_false, Bool.or_true, Bool.not_true, Bool.not_false, Nat.reduceLeDiff, Bool.false_or, Bool.true_or, DL.trim_eq, DL.sFor_k, DL.kFor_0, DL.cSrc_k, DL.kSrc_0, DL.cApp_k, DL.kSrcA_0, DL.srcD_t, DL.srcD_f, DL.eqD_ii, DL.neD_ii, DL.ix_t0, DL.ix_t1, mulD_i _ _ _ m0, hw, lw, sl]
  by_cases h : dif f g < 0
  · have h3 : ¬ o ≤ 0 := by
      rw [ho, if_neg (by rw [d1]; rw [d2] at h; omega), if_pos (by rw [d1]; rw [d2] at h; omega)]
      decide
    simp only [S__law_two_hold_6, S__law_two_hold_7, S__law_two_hold_8, DL.kSeq_0, DL.kSeq_1, DL.kSeq_2, DL.kSeq_3, DL.kSeq_4, DL.sSeq_k, DL.sSkip_k, DL.sBreak_k, DL.sCont_k, DL.sRetN_k, DL.kExpr_0, DL.kExpr_1, DL.sExpr_k, DL.kRet_0, DL.kRet_1, DL.sRet_k, DL.kIf_0, DL.kIf_1, DL.kIf_2, DL.sIf_k, DL.kAsg2_0, DL.kAsg_0, DL.kAsg_1, DL.sAsg_k, DL.sSet_k, DL.gN_k, DL.gsN_k, DL.kG_0, DL.gsC_k, DL.gT_k, DL.kPut4_0, DL.kPut3_0, DL.kPut3_1, DL.kPut2_0, DL.kPut2_1, DL.kPut_0, DL.kPut_1, DL.sPut_k, DL.sPar_k, DL.kVar_0, DL.eVar_k, DL.eC_k, DL.kUn_0, DL.kUn_1, DL.eUn_k, DL.eIsi_k, DL.kBin2_0, DL.kBin2_1, DL.kBin_0, DL.kBin_1, DL.eBin_k, DL.aNil_k, DL.kCons2_0, DL.kCons2_1, DL.kCons_0, DL.kCons_1, DL.aCons_k, DL.kApp_0, DL.kApp_1, DL.eApp_k, DL.kMt2_0, DL.kMt2_1, DL.kMt1_0, DL.kMt_0, DL.kMt_1, DL.eMt_k, DL.kTru_0, DL.kTru_1, DL.tTru_k, DL.kAnd_0, DL.kAnd_1, DL.kAnd_2, DL.tAndF_k, DL.kOr_0, DL.kOr_1, DL.kOr_2, DL.tOrF_k, DL.kNot_0, DL.kNot_1, DL.kNot_2, DL.tNotF_k, DL.kEIf_0, DL.kEIf_1, DL.kEIf_2, DL.eIf_k, DL.kEAnd2_0, DL.kEAnd2_1, DL.kEAnd2_2, DL.kEAnd_0, DL.kEAnd_1, DL.eAnd_k, DL.kEOr2_0, DL.kEOr2_1, DL.kEOr2_2, DL.kEOr_0, DL.kEOr_1, DL.eOr_k, DL.kENot2_0, DL.kENot2_1, DL.kENot2_2, DL.kENot_0, DL.kENot_1, DL.eNot_k, DL.kSl3_0, DL.kSl3_1, DL.kSl2_0, DL.kSl2_1, DL.kSl_0, DL.kSl_1, DL.eSl_k, DL.oNone_k, DL.kOS_0, DL.kOS_1, DL.oSome_k, DL.kKw2_0, DL.kKw2_1, DL.kKw_0, DL.kKw_1, DL.eKw_k, DL.truD_bl, DL.blD_bl, DL.addD_i, DL.subD_i, DL.ltI_i, DL.leI_i, DL.gtI_i, DL.geI_i, DL.negD_i, DL.intD_i, DL.intD_b, DL.max2D_i, DL.min2D_i, DL.gcdD_i, DL.lenD_t, DL.lenD_f, DL.isD_nn, DL.isD_in, DL.isD_tn, DL.isD_bn, DL.isD_sn, DL.isD_ib, DL.isD_tb, DL.isD_bb, DL.isD_sb, DL.isD_nb, DL.isnD_bb, DL.isi_i, DL.isi_b, DL.isi_t, DL.isi_s, DL.isi_n, DL.isTy_ii, DL.isTy_bi, DL.isTy_ib, DL.isTy_bb, DL.isTy_tt, DL.isTy_it, DL.isTy_bt, DL.isTy_ti, DL.isTy_is, DL.isTy_bs, DL.isTy_ss, DL.isTy_st, DL.isTy_nt, DL.isTy_ns, DL.isTy_ni, DL.isTy_ts, DL.isTy_si, DL.isTy_tb, DL.mulD_i, DL.modD_i, DL.fdivD_i, DL.powD_i, DL.tupD_k, DL.lstD_k, DL.fnD_k, DL.endR_rt, DL.endR_nx, DL.endR_ex, List.map_cons, List.map_nil, List.replicate_succ, List.replicate_zero, List.cons_append, List.nil_append, List.getElem?_cons_zero, List.getElem?_cons_succ, List.set_cons_zero, List.set_cons_succ, Nat.reduceSub, Nat.reduceAdd, List.length_cons, List.length_nil, List.any_cons, List.any_nil, Bool.or_false, Bool.or_true, Bool.not_true, Bool.not_false, Nat.reduceLeDiff, Bool.false_or, Bool.true_or, DL.trim_eq, DL.sFor_k, DL.kFor_0, DL.cSrc_k, DL.kSrc_0, DL.cApp_k, DL.kSrcA_0, DL.srcD_t, DL.srcD_f, DL.eqD_ii, DL.neD_ii, DL.ix_t0, DL.ix_t1, h3, decide_false, rest_bad F G s h, same8 (.tup [.bl false, .tup [mo f, mo g, .bl true]]) s (by simp [gd])]
  · have h3 : o ≤ 0 := by
      rw [ho]
      by_cases h4 : dif g f < 0
      · rw [if_pos h4]; decide
      · rw [if_neg h4, if_neg (by rw [d1] at *; rw [d2] at h; omega)]; decide
    have lr := lowest_ok s (a := dif f g) (b := f.2 * g.2) (by omega) b1 (lt9000 b2 (by decide))
    simp only [S__law_two_hold_6, S__law_two_hold_7, S__law_two_hold_8, DL.kSeq_0, DL.kSeq_1, DL.kSeq_2, DL.kSeq_3, DL.kSeq_4, DL.sSeq_k, DL.sSkip_k, DL.sBreak_k, DL.sCont_k, DL.sRetN_k, DL.kExpr_0, DL.kExpr_1, DL.sExpr_k, DL.kRet_0, DL.kRet_1, DL.sRet_k, DL.kIf_0, DL.kIf_1, DL.kIf_2, DL.sIf_k, DL.kAsg2_0, DL.kAsg_0, DL.kAsg_1, DL.sAsg_k, DL.sSet_k, DL.gN_k, DL.gsN_k, DL.kG_0, DL.gsC_k, DL.gT_k, DL.kPut4_0, DL.kPut3_0, DL.kPut3_1, DL.kPut2_0, DL.kPut2_1, DL.kPut_0, DL.kPut_1, DL.sPut_k, DL.sPar_k, DL.kVar_0, DL.eVar_k, DL.eC_k, DL.kUn_0, DL.kUn_1, DL.eUn_k, DL.eIsi_k, DL.kBin2_0, DL.kBin2_1, DL.kBin_0, DL.kBin_1, DL.eBin_k, DL.aNil_k, DL.kCons2_0, DL.kCons2_1, DL.kCons_0, DL.kCons_1, DL.aCons_k, DL.kApp_0, DL.kApp_1, DL.eApp_k, DL.kMt2_0, DL.kMt2_1, DL.kMt1_0, DL.kMt_0, DL.kMt_1, DL.eMt_k, DL.kTru_0, DL.kTru_1, DL.tTru_k, DL.kAnd_0, DL.kAnd_1, DL.kAnd_2, DL.tAndF_k, DL.kOr_0, DL.kOr_1, DL.kOr_2, DL.tOrF_k, DL.kNot_0, DL.kNot_1, DL.kNot_2, DL.tNotF_k, DL.kEIf_0, DL.kEIf_1, DL.kEIf_2, DL.eIf_k, DL.kEAnd2_0, DL.kEAnd2_1, DL.kEAnd2_2, DL.kEAnd_0, DL.kEAnd_1, DL.eAnd_k, DL.kEOr2_0, DL.kEOr2_1, DL.kEOr2_2, DL.kEOr_0, DL.kEOr_1, DL.eOr_k, DL.kENot2_0, DL.kENot2_1, DL.kENot2_2, DL.kENot_0, DL.kENot_1, DL.eNot_k, DL.kSl3_0, DL.kSl3_1, DL.kSl2_0, DL.kSl2_1, DL.kSl_0, DL.kSl_1, DL.eSl_k, DL.oNone_k, DL.kOS_0, DL.kOS_1, DL.oSome_k, DL.kKw2_0, DL.kKw2_1, DL.kKw_0, DL.kKw_1, DL.eKw_k, DL.truD_bl, DL.blD_bl, DL.addD_i, DL.subD_i, DL.ltI_i, DL.leI_i, DL.gtI_i, DL.geI_i, DL.negD_i, DL.intD_i, DL.intD_b, DL.max2D_i, DL.min2D_i, DL.gcdD_i, DL.lenD_t, DL.lenD_f, DL.isD_nn, DL.isD_in, DL.isD_tn, DL.isD_bn, DL.isD_sn, DL.isD_ib, DL.isD_tb, DL.isD_bb, DL.isD_sb, DL.isD_nb, DL.isnD_bb, DL.isi_i, DL.isi_b, DL.isi_t, DL.isi_s, DL.isi_n, DL.isTy_ii, DL.isTy_bi, DL.isTy_ib, DL.isTy_bb, DL.isTy_tt, DL.isTy_it, DL.isTy_bt, DL.isTy_ti, DL.isTy_is, DL.isTy_bs, DL.isTy_ss, DL.isTy_st, DL.isTy_nt, DL.isTy_ns, DL.isTy_ni, DL.isTy_ts, DL.isTy_si, DL.isTy_tb, DL.mulD_i, DL.modD_i, DL.fdivD_i, DL.powD_i, DL.tupD_k, DL.lstD_k, DL.fnD_k, DL.endR_rt, DL.endR_nx, DL.endR_ex, List.map_cons, List.map_nil, List.replicate_succ, List.replicate_zero, List.cons_append, List.nil_append, List.getElem?_cons_zero, List.getElem?_cons_succ, List.set_cons_zero, List.set_cons_succ, Nat.reduceSub, Nat.reduceAdd, List.length_cons, List.length_nil, List.any_cons, List.any_nil, Bool.or_false, Bool.or_true, Bool.not_true, Bool.not_false, Nat.reduceLeDiff, Bool.false_or, Bool.true_or, DL.trim_eq, DL.sFor_k, DL.kFor_0, DL.cSrc_k, DL.kSrc_0, DL.cApp_k, DL.kSrcA_0, DL.srcD_t, DL.srcD_f, DL.eqD_ii, DL.neD_ii, DL.ix_t0, DL.ix_t1, h3, decide_true, show g.1 * f.2 - f.1 * g.2 = dif f g from rfl, lr, rest_ok F G s (by omega), same8 (.tup [.bl true, loD (dif f g) (f.2 * g.2)]) s (by simp [gd, loD])]

/-! ### numbers drawn -/
theorem k9000 {k : Int} (h0 : 0 ≤ k) (h : k < 2 ^ 64) : k.natAbs < 2 ^ 9000 := lt9000 (m := 64) (by omega) (by decide)
theorem p106 : powD (.int 10) (.int 6) = fun s => .ok (.int 1000000) s := by
  funext s
  exact powD_i 10 6 s (by decide)
theorem p105 : powD (.int 10) (.int 5) = fun s => .ok (.int 100000) s := by
  funext s
  exact powD_i 10 5 s (by decide)
theorem p1010 : powD (.int 10) (.int 10) = fun s => .ok (.int 10000000000) s := by
  funext s
  exact powD_i 10 10 s (by decide)
theorem wide_ok {s : Sto} {b g n : Nat} (B : Box s b g (n + 2)) : ∃ r s', F__law_wide [.loc b] s = .ok (.int r) s' ∧ 0 ≤ r ∧ r < 1000000000000 ∧ Box s' b g n ∧ Fr b g s s' := by
  obtain ⟨r1, s1, e1, a1, c1, B1, F1⟩ := draw_ok (n := n + 1) (k := 1000000) B (by decide) (k9000 (by decide) (by decide))
  obtain ⟨r2, s2, e2, a2, c2, B2, F2⟩ := draw_ok (k := 1000000) B1 (by decide) (k9000 (by decide) (by decide))
  have m : mulOk r1 1000000 = true := mulOk_b (m := 20) (n := 20) (by omega) (by decide) (by decide) (by decide)
  obtain ⟨s3, t3, B3, F3⟩ := Box.trim (d := .int (r1 * 1000000 + r2)) B.lt.1 B.lt.2 B2 (F1.trans F2)
  refine ⟨r1 * 1000000 + r2, s3, ?_, by omega, by omega, B3, F3⟩
  rw [← t3]
  simp only [F__law_wide, B__law_wide, S__law_wide_0, DL.kSeq_0, DL.kSeq_1, DL.kSeq_2, DL.kSeq_3, DL.kSeq_4, DL.sSeq_k, DL.sSkip_k, DL.sBreak_k, DL.sCont_k, DL.sRetN_k, DL.kExpr_0, DL.kExpr_1, DL.sExpr_k, DL.kRet_0, DL.kRet_1, DL.sRet_k, DL.kIf_0, DL.kIf_1, DL.kIf_2, DL.sIf_k, DL.kAsg2_0, DL.kAsg_0, DL.kAsg_1, DL.sAsg_k, DL.sSet_k, DL.gN_k, DL.gsN_k, DL.kG_0, DL.gsC_k, DL.gT_k, DL.kPut4_0, DL.kPut3_0, DL.kPut3_1, DL.kPut2_0, DL.kPut2_1, DL.kPut_0, DL.kPut_1, DL.sPut_k, DL.sPar_k, DL.kVar_0, DL.eVar_k, DL.eC_k, DL.kUn_0, DL.kUn_1, DL.eUn_k, DL.eIsi_k, DL.kBin2_0, DL.kBin2_1, DL.kBin_0, DL.kBin_1, DL.eBin_k, DL.aNil_k, DL.kCons2_0, DL.kCons2_1, DL.kCons_0, DL.kCons_1, DL.aCons_k, DL.kApp_0, DL.kApp_1, DL.eApp_k, DL.kMt2_0, DL.kMt2_1, DL.kMt1_0, DL.kMt_0, DL.kMt_1, DL.eMt_k, DL.kTru_0, DL.kTru_1, DL.tTru_k, DL.kAnd_0, DL.kAnd_1, DL.kAnd_2, DL.tAndF_k, DL.kOr_0, DL.kOr_1, DL.kOr_2, DL.tOrF_k, DL.kNot_0, DL.kNot_1, DL.kNot_2, DL.tNotF_k, DL.kEIf_0, DL.kEIf_1, DL.kEIf_2, DL.eIf_k, DL.kEAnd2_0, DL.kEAnd2_1, DL.kEAnd2_2, DL.kEAnd_0, DL.kEAnd_1, DL.eAnd_k, DL.kEOr2_0, DL.kEOr2_1, DL.kEOr2_2, DL.kEOr_0, DL.kEOr_1, DL.eOr_k, DL.kENot2_0, DL.kENot2_1, DL.kENot2_2, DL.kENot_0, DL.kENot_1, DL.eNot_k, DL.kSl3_0, DL.kSl3_1, DL.kSl2_0, DL.kSl2_1, DL.kSl_0, DL.kSl_1, DL.eSl_k, DL.oNone_k, DL.kOS_0, DL.kOS_1, DL.oSome_k, DL.kKw2_0, DL.kKw2_1, DL.kKw_0, DL.kKw_1, DL.eKw_k, DL.truD_bl, DL.blD_bl, DL.addD_i, DL.subD_i, DL.ltI_i, DL.leI_i, DL.gtI_i, DL.geI_i, DL.negD_i, DL.intD_i, DL.intD_b, DL.max2D_i, DL.min2D_i, DL.gcdD_i, DL.lenD_t, DL.lenD_f, DL.isD_nn, DL.isD_in, DL.isD_tn, DL.isD_bn, DL.isD_sn, DL.isD_ib, DL.isD_tb, DL.isD_bb, DL.isD_sb, DL.isD_nb, DL.isnD_bb, DL.isi_i, DL.isi_b, DL.isi_t, DL.isi_s, DL.isi_n, DL.isTy_ii, DL.isTy_bi, DL.isTy_ib, DL.isTy_bb, DL.isTy_tt, DL.isTy_it, DL.isTy_bt, DL.isTy_ti, DL.isTy_is, DL.isTy_bs, DL.isTy_ss, DL.isTy_st, DL.isTy_nt, DL.isTy_ns, DL.isTy_ni, DL.isTy_ts, DL.isTy_si, DL.isTy_tb, DL.mulD_i, DL.modD_i, DL.fdivD_i, DL.powD_i, DL.tupD_k, DL.lstD_k, DL.fnD_k, DL.endR_rt, DL.endR_nx, DL.endR_ex, List.map_cons, List.map_nil, List.replicate_succ, List.replicate_zero, List.cons_append, List.nil_append, List.getElem?_cons_zero, List.getElem?_cons_succ, List.set_cons_zero, List.set_cons_succ, Nat.reduceSub, Nat.reduceAdd, List.length_cons, List.length_nil, List.any_cons, List.any_nil, Bool.or_false, Bool.or_true, Bool.not_true, Bool.not_false, Nat.reduceLeDiff, Bool.false_or, Bool.true_or, DL.trim_eq, DL.sFor_k, DL.kFor_0, DL.cSrc_k, DL.kSrc_0, DL.cApp_k, DL.kSrcA_0, DL.srcD_t, DL.srcD_f, DL.eqD_ii, DL.neD_ii, DL.ix_t0, DL.ix_t1, p106, e1, e2, mulD_i _ _ _ m]
theorem pys_mo : ∀ xs : List (Int × Int), pysF (xs.map mo) = xs.map fun x => PyData.tuple [.int x.1, .int x.2]
  | [] => rfl
  | x :: xs => by
    rw [List.map_cons, List.map_cons, pysF, pys_mo xs]
    rfl
theorem flats_mo : ∀ xs : List (Int × Int), flats (xs.map mo) = true
  | [] => rfl
  | x :: xs => by
    rw [List.map_cons, flats, flats_mo xs]
    rfl
theorem lay_mo : ∀ xs : List (Int × Int), PyData.canLayAll0 (xs.map fun x => PyData.tuple [.int x.1, .int x.2]) = true ∧ PyData.depthAll (xs.map fun x => PyData.tuple [.int x.1, .int x.2]) ≤ 1
  | [] => ⟨rfl, by decide⟩
  | x :: xs => by
    obtain ⟨h1, h2⟩ := lay_mo xs
    rw [List.map_cons]
    refine ⟨by rw [PyData.canLayAll0, h1]; rfl, ?_⟩
    rw [PyData.depthAll]
    have : PyData.depth (PyData.tuple [.int x.1, .int x.2]) = 1 := rfl
    omega
theorem shaped_mo (xs : List (Int × Int)) : SeqAt.shaped (.list (xs.map fun x => PyData.tuple [.int x.1, .int x.2])) = true := by
  obtain ⟨h1, h2⟩ := lay_mo xs
  unfold SeqAt.shaped
  rw [PyData.canLay0, PyData.depth, h1, decide_eq_true (by omega)]
  rfl
theorem eqD_mo {xs : List (Int × Int)} {s : Sto} {g n : Nat} (hg : s[g]? = some (.lst (xs.map mo))) (hn : s[n]? = some (.lst [])) : eqD (.loc g) (.loc n) s = .ok (.bl xs.isEmpty) s := by
  unfold eqD
  simp only [D.py, hg, hn, flats_mo, if_true, pys_mo]
  have h0 : flats [] = true := rfl
  simp only [h0, if_true, shaped_mo, Bool.true_and]
  rw [show SeqAt.shaped (PyData.list (pysF [])) = true from rfl, if_pos rfl]
  cases xs <;> rfl
section
variable {s : Sto} {b g n l : Nat} {xs : List (Int × Int)}
theorem fraction_ok (B : Box s b g (n + 8)) (hl : s[l]? = some (.lst (xs.map mo))) (n1 : l ≠ b) (n2 : l ≠ g) (h : ∀ x ∈ xs, Mo x) (hz : xs.length ≤ 100) : ∃ x s', F__law_fraction [.loc b, .loc l] s = .ok (mo x) s' ∧ Mo x ∧ Box s' b g n ∧ Fr b g s s' := by
  obtain ⟨c, s1, e1, c0, c7, B1, F1⟩ := draw_ok (n := n + 7) (k := 7) B (by decide) (k9000 (by decide) (by decide))
  have fin : ∀ (x : Int × Int) (s2 : Sto) (m : Nat), n ≤ m → Mo x → Box s2 b g m → Fr b g s s2 → (∃ ρ, B__law_fraction [.d (.loc b), .d (.loc l), .un, .un, .un, .un, .un] s = .rt (mo x) s2 ∨ ρ = ([] : En)) → True := fun _ _ _ _ _ _ _ _ => trivial
  have done : ∀ (x : Int × Int) (s2 : Sto) (m : Nat), n ≤ m → Mo x → Box s2 b g m → Fr b g s s2 → B__law_fraction [.d (.loc b), .d (.loc l), .un, .un, .un, .un, .un] s = .rt (mo x) s2 → ∃ x s', F__law_fraction [.loc b, .loc l] s = .ok (mo x) s' ∧ Mo x ∧ Box s' b g n ∧ Fr b g s s' := fun x s2 m hm M B2 F2 e => by
    obtain ⟨s3, t3, B3, F3⟩ := Box.trim (d := mo x) B.lt.1 B.lt.2 (B2.mono hm) F2
    refine ⟨x, s3, ?_, M, B3, F3⟩
    rw [← t3]
    simp only [F__law_fraction, DL.kSeq_0, DL.kSeq_1, DL.kSeq_2, DL.kSeq_3, DL.kSeq_4, DL.sSeq_k, DL.sSkip_k, DL.sBreak_k, DL.sCont_k, DL.sRetN_k, DL.kExpr_0, DL.kExpr_1, DL.sExpr_k, DL.kRet_0, DL.kRet_1, DL.sRet_k, DL.kIf_0, DL.kIf_1, DL.kIf_2, DL.sIf_k, DL.kAsg2_0, DL.kAsg_0, DL.kAsg_1, DL.sAsg_k, DL.sSet_k, DL.gN_k, DL.gsN_k, DL.kG_0, DL.gsC_k, DL.gT_k, DL.kPut4_0, DL.kPut3_0, DL.kPut3_1, DL.kPut2_0, DL.kPut2_1, DL.kPut_0, DL.kPut_1, DL.sPut_k, DL.sPar_k, DL.kVar_0, DL.eVar_k, DL.eC_k, DL.kUn_0, DL.kUn_1, DL.eUn_k, DL.eIsi_k, DL.kBin2_0, DL.kBin2_1, DL.kBin_0, DL.kBin_1, DL.eBin_k, DL.aNil_k, DL.kCons2_0, DL.kCons2_1, DL.kCons_0, DL.kCons_1, DL.aCons_k, DL.kApp_0, DL.kApp_1, DL.eApp_k, DL.kMt2_0, DL.kMt2_1, DL.kMt1_0, DL.kMt_0, DL.kMt_1, DL.eMt_k, DL.kTru_0, DL.kTru_1, DL.tTru_k, DL.kAnd_0, DL.kAnd_1, DL.kAnd_2, DL.tAndF_k, DL.kOr_0, DL.kOr_1, DL.kOr_2, DL.tOrF_k, DL.kNot_0, DL.kNot_1, DL.kNot_2, DL.tNotF_k, DL.kEIf_0, DL.kEIf_1, DL.kEIf_2, DL.eIf_k, DL.kEAnd2_0, DL.kEAnd2_1, DL.kEAnd2_2, DL.kEAnd_0, DL.kEAnd_1, DL.eAnd_k, DL.kEOr2_0, DL.kEOr2_1, DL.kEOr2_2, DL.kEOr_0, DL.kEOr_1, DL.eOr_k, DL.kENot2_0, DL.kENot2_1, DL.kENot2_2, DL.kENot_0, DL.kENot_1, DL.eNot_k, DL.kSl3_0, DL.kSl3_1, DL.kSl2_0, DL.kSl2_1, DL.kSl_0, DL.kSl_1, DL.eSl_k, DL.oNone_k, DL.kOS_0, DL.kOS_1, DL.oSome_k, DL.kKw2_0, DL.kKw2_1, DL.kKw_0, DL.kKw_1, DL.eKw_k, DL.truD_bl, DL.blD_bl, DL.addD_i, DL.subD_i, DL.ltI_i, DL.leI_i, DL.gtI_i, DL.geI_i, DL.negD_i, DL.intD_i, DL.intD_b, DL.max2D_i, DL.min2D_i, DL.gcdD_i, DL.lenD_t, DL.lenD_f, DL.isD_nn, DL.isD_in, DL.isD_tn, DL.isD_bn, DL.isD_sn, DL.isD_ib, DL.isD_tb, DL.isD_bb, DL.isD_sb, DL.isD_nb, DL.isnD_bb, DL.isi_i, DL.isi_b, DL.isi_t, DL.isi_s, DL.isi_n, DL.isTy_ii, DL.isTy_bi, DL.isTy_ib, DL.isTy_bb, DL.isTy_tt, DL.isTy_it, DL.isTy_bt, DL.isTy_ti, DL.isTy_is, DL.isTy_bs, DL.isTy_ss, DL.isTy_st, DL.isTy_nt, DL.isTy_ns, DL.isTy_ni, DL.isTy_ts, DL.isTy_si, DL.isTy_tb, DL.mulD_i, DL.modD_i, DL.fdivD_i, DL.powD_i, DL.tupD_k, DL.lstD_k, DL.fnD_k, DL.endR_rt, DL.endR_nx, DL.endR_ex, List.map_cons, List.map_nil, List.replicate_succ, List.replicate_zero, List.cons_append, List.nil_append, List.getElem?_cons_zero, List.getElem?_cons_succ, List.set_cons_zero, List.set_cons_succ, Nat.reduceSub, Nat.reduceAdd, List.length_cons, List.length_nil, List.any_cons, List.any_nil, Bool.or_false, Bool.or_true, Bool.not_true, Bool.not_false, Nat.reduceLeDiff, Bool.false_or, Bool.true_or, DL.trim_eq, DL.sFor_k, DL.kFor_0, DL.cSrc_k, DL.kSrc_0, DL.cApp_k, DL.kSrcA_0, DL.srcD_t, DL.srcD_f, DL.eqD_ii, DL.neD_ii, DL.ix_t0, DL.ix_t1]
    rw [e]
    rfl
  clear fin
  by_cases h0 : c = 0
  · refine done (0, 1) s1 (n + 7) (by omega) ⟨by decide, by decide, rfl, by decide, by decide⟩ B1 F1 ?_
    subst h0
    simp only [B__law_fraction, S__law_fraction_0, S__law_fraction_1, DL.kSeq_0, DL.kSeq_1, DL.kSeq_2, DL.kSeq_3, DL.kSeq_4, DL.sSeq_k, DL.sSkip_k, DL.sBreak_k, DL.sCont_k, DL.sRetN_k, DL.kExpr_0, DL.kExpr_1, DL.sExpr_k, DL.kRet_0, DL.kRet_1, DL.sRet_k, DL.kIf_0, DL.kIf_1, DL.kIf_2, DL.sIf_k, DL.kAsg2_0, DL.kAsg_0, DL.kAsg_1, DL.sAsg_k, DL.sSet_k, DL.gN_k, DL.gsN_k, DL.kG_0, DL.gsC_k, DL.gT_k, DL.kPut4_0, DL.kPut3_0, DL.kPut3_1, DL.kPut2_0, DL.kPut2_1, DL.kPut_0, DL.kPut_1, DL.sPut_k, DL.sPar_k, DL.kVar_0, DL.eVar_k, DL.eC_k, DL.kUn_0, DL.kUn_1, DL.eUn_k, DL.eIsi_k, DL.kBin2_0, DL.kBin2_1, DL.kBin_0, DL.kBin_1, DL.eBin_k, DL.aNil_k, DL.kCons2_0, DL.kCons2_1, DL.kCons_0, DL.kCons_1, DL.aCons_k, DL.kApp_0, DL.kApp_1, DL.eApp_k, DL.kMt2_0, DL.kMt2_1, DL.kMt1_0, DL.kMt_0, DL.kMt_1, DL.eMt_k, DL.kTru_0, DL.kTru_1, DL.tTru_k, DL.kAnd_0, DL.kAnd_1, DL.kAnd_2, DL.tAndF_k, DL.kOr_0, DL.kOr_1, DL.kOr_2, DL.tOrF_k, DL.kNot_0, DL.kNot_1, DL.kNot_2, DL.tNotF_k, DL.kEIf_0, DL.kEIf_1, DL.kEIf_2, DL.eIf_k, DL.kEAnd2_0, DL.kEAnd2_1, DL.kEAnd2_2, DL.kEAnd_0, DL.kEAnd_1, DL.eAnd_k, DL.kEOr2_0, DL.kEOr2_1, DL.kEOr2_2, DL.kEOr_0, DL.kEOr_1, DL.eOr_k, DL.kENot2_0, DL.kENot2_1, DL.kENot2_2, DL.kENot_0, DL.kENot_1, DL.eNot_k, DL.kSl3_0, DL.kSl3_1, DL.kSl2_0, DL.kSl2_1, DL.kSl_0, DL.kSl_1, DL.eSl_k, DL.oNone_k, DL.kOS_0, DL.kOS_1, DL.oSome_k, DL.kKw2_0, DL.kKw2_1, DL.kKw_0, DL.kKw_1, DL.eKw_k, DL.truD_bl, DL.blD_bl, DL.addD_i, DL.subD_i, DL.ltI_i, DL.leI_i, DL.gtI_i, DL.geI_i, DL.negD_i, DL.intD_i, DL.intD_b, DL.max2D_i, DL.min2D_i, DL.gcdD_i, DL.lenD_t, DL.lenD_f, DL.isD_nn, DL.isD_in, DL.isD_tn, DL.isD_bn, DL.isD_sn, DL.isD_ib, DL.isD_tb, DL.isD_bb, DL.isD_sb, DL.isD_nb, DL.isnD_bb, DL.isi_i, DL.isi_b, DL.isi_t, DL.isi_s, DL.isi_n, DL.isTy_ii, DL.isTy_bi, DL.isTy_ib, DL.isTy_bb, DL.isTy_tt, DL.isTy_it, DL.isTy_bt, DL.isTy_ti, DL.isTy_is, DL.isTy_bs, DL.isTy_ss, DL.isTy_st, DL.isTy_nt, DL.isTy_ns, DL.isTy_ni, DL.isTy_ts, DL.isTy_si, DL.isTy_tb, DL.mulD_i, DL.modD_i, DL.fdivD_i, DL.powD_i, DL.tupD_k, DL.lstD_k, DL.fnD_k, DL.endR_rt, DL.endR_nx, DL.endR_ex, List.map_cons, List.map_nil, List.replicate_succ, List.replicate_zero, List.cons_append, List.nil_append, List.getElem?_cons_zero, List.getElem?_cons_succ, List.set_cons_zero, List.set_cons_succ, Nat.reduceSub, Nat.reduceAdd, List.length_cons, List.length_nil, List.any_cons, List.any_nil, Bool.or_false, Bool.or_true, Bool.not_true, Bool.not_false, Nat.reduceLeDiff, Bool.false_or, Bool.true_or, DL.trim_eq, DL.sFor_k, DL.kFor_0, DL.cSrc_k, DL.kSrc_0, DL.cApp_k, DL.kSrcA_0, DL.srcD_t, DL.srcD_f, DL.eqD_ii, DL.neD_ii, DL.ix_t0, DL.ix_t1, e1, beq_self_eq_true]
  have b0 : (c == 0) = false := beq_eq_false_iff_ne.mpr h0
  by_cases h1 : c = 1
  · subst h1
    obtain ⟨r, s2, e2, r0, r1, B2, F2⟩ := draw_ok (n := n + 6) (k := 100) B1 (by decide) (k9000 (by decide) (by decide))
    refine done (r, 1) s2 (n + 6) (by omega) ⟨r0, Int.le_refl 1, gI_one r, by show r.natAbs < _; rw [two64]; omega, by show (1 : Int).natAbs < _; decide⟩ B2 (F1.trans F2) ?_
    simp only [B__law_fraction, S__law_fraction_0, S__law_fraction_1, S__law_fraction_2, DL.kSeq_0, DL.kSeq_1, DL.kSeq_2, DL.kSeq_3, DL.kSeq_4, DL.sSeq_k, DL.sSkip_k, DL.sBreak_k, DL.sCont_k, DL.sRetN_k, DL.kExpr_0, DL.kExpr_1, DL.sExpr_k, DL.kRet_0, DL.kRet_1, DL.sRet_k, DL.kIf_0, DL.kIf_1, DL.kIf_2, DL.sIf_k, DL.kAsg2_0, DL.kAsg_0, DL.kAsg_1, DL.sAsg_k, DL.sSet_k, DL.gN_k, DL.gsN_k, DL.kG_0, DL.gsC_k, DL.gT_k, DL.kPut4_0, DL.kPut3_0, DL.kPut3_1, DL.kPut2_0, DL.kPut2_1, DL.kPut_0, DL.kPut_1, DL.sPut_k, DL.sPar_k, DL.kVar_0, DL.eVar_k, DL.eC_k, DL.kUn_0, DL.kUn_1, DL.eUn_k, DL.eIsi_k, DL.kBin2_0, DL.kBin2_1, DL.kBin_0, DL.kBin_1, DL.eBin_k, DL.aNil_k, DL.kCons2_0, DL.kCons2_1, DL.kCons_0, DL.kCons_1, DL.aCons_k, DL.kApp_0, DL.kApp_1, DL.eApp_k, DL.kMt2_0, DL.kMt2_1, DL.kMt1_0, DL.kMt_0, DL.kMt_1, DL.eMt_k, DL.kTru_0, DL.kTru_1, DL.tTru_k, DL.kAnd_0, DL.kAnd_1, DL.kAnd_2, DL.tAndF_k, DL.kOr_0, DL.kOr_1, DL.kOr_2, DL.tOrF_k, DL.kNot_0, DL.kNot_1, DL.kNot_2, DL.tNotF_k, DL.kEIf_0, DL.kEIf_1, DL.kEIf_2, DL.eIf_k, DL.kEAnd2_0, DL.kEAnd2_1, DL.kEAnd2_2, DL.kEAnd_0, DL.kEAnd_1, DL.eAnd_k, DL.kEOr2_0, DL.kEOr2_1, DL.kEOr2_2, DL.kEOr_0, DL.kEOr_1, DL.eOr_k, DL.kENot2_0, DL.kENot2_1, DL.kENot2_2, DL.kENot_0, DL.kENot_1, DL.eNot_k, DL.kSl3_0, DL.kSl3_1, DL.kSl2_0, DL.kSl2_1, DL.kSl_0, DL.kSl_1, DL.eSl_k, DL.oNone_k, DL.kOS_0, DL.kOS_1, DL.oSome_k, DL.kKw2_0, DL.kKw2_1, DL.kKw_0, DL.kKw_1, DL.eKw_k, DL.truD_bl, DL.blD_bl, DL.addD_i, DL.subD_i, DL.ltI_i, DL.leI_i, DL.gtI_i, DL.geI_i, DL.negD_i, DL.intD_i, DL.intD_b, DL.max2D_i, DL.min2D_i, DL.gcdD_i, DL.lenD_t, DL.lenD_f, DL.isD_nn, DL.isD_in, DL.isD_tn, DL.isD_bn, DL.isD_sn, DL.isD_ib, DL.isD_tb, DL.isD_bb, DL.isD_sb, DL.isD_nb, DL.isnD_bb, DL.isi_i, DL.isi_b, DL.isi_t, DL.isi_s, DL.isi_n, DL.isTy_ii, DL.isTy_bi, DL.isTy_ib, DL.isTy_bb, DL.isTy_tt, DL.isTy_it, DL.isTy_bt, DL.isTy_ti, DL.isTy_is, DL.isTy_bs, DL.isTy_ss, DL.isTy_st, DL.isTy_nt, DL.isTy_ns, DL.isTy_ni, DL.isTy_ts, DL.isTy_si, DL.isTy_tb, DL.mulD_i, DL.modD_i, DL.fdivD_i, DL.powD_i, DL.tupD_k, DL.lstD_k, DL.fnD_k, DL.endR_rt, DL.endR_nx, DL.endR_ex, List.map_cons, List.map_nil, List.replicate_succ, List.replicate_zero, List.cons_append, List.nil_append, List.getElem?_cons_zero, List.getElem?_cons_succ, List.set_cons_zero, List.set_cons_succ, Nat.reduceSub, Nat.reduceAdd, List.length_cons, List.length_nil, List.any_cons, List.any_nil, Bool.or_false, Bool.or_true, Bool.not_true, Bool.not_false, Nat.reduceLeDiff, Bool.false_or, Bool.true_or, DL.trim_eq, DL.sFor_k, DL.kFor_0, DL.cSrc_k, DL.kSrc_0, DL.cApp_k, DL.kSrcA_0, DL.srcD_t, DL.srcD_f, DL.eqD_ii, DL.neD_ii, DL.ix_t0, DL.ix_t1, e1, b0, beq_self_eq_true, e2]
  have b1 : (c == 1) = false := beq_eq_false_iff_ne.mpr h1
  by_cases h2 : c = 2 ∨ c = 3
  · obtain ⟨r, s2, e2, r0, r1, B2, F2⟩ := draw_ok (n := n + 6) (k := 41) B1 (by decide) (k9000 (by decide) (by decide))
    obtain ⟨q, s3, e3, q0, q1, B3, F3⟩ := draw_ok (n := n + 5) (k := 12) B2 (by decide) (k9000 (by decide) (by decide))
    have lw := lowest_ok s3 (a := r) (b := 1 + q) r0 (by omega) (k9000 (by omega) (by omega))
    refine done (low2 r (1 + q)) s3 (n + 5) (by omega) (Mo.low r0 (by omega) (by rw [two64]; omega) (by rw [two64]; omega)) B3 (F1.trans (F2.trans F3)) ?_
    have cond : tOrF (tTru blD (eBin eqD (eVar 2) (eC (.int 2)))) (tTru blD (eBin eqD (eVar 2) (eC (.int 3)))) [.d (.loc b), .d (.loc l), .d (.int c), .un, .un, .un, .un] s1 = .ok true s1 := by
      rcases h2 with h2 | h2
      · subst h2; simp only [DL.kSeq_0, DL.kSeq_1, DL.kSeq_2, DL.kSeq_3, DL.kSeq_4, DL.sSeq_k, DL.sSkip_k, DL.sBreak_k, DL.sCont_k, DL.sRetN_k, DL.kExpr_0, DL.kExpr_1, DL.sExpr_k, DL.kRet_0, DL.kRet_1, DL.sRet_k, DL.kIf_0, DL.kIf_1, DL.kIf_2, DL.sIf_k, DL.kAsg2_0, DL.kAsg_0, DL.kAsg_1, DL.sAsg_k, DL.sSet_k, DL.gN_k, DL.gsN_k, DL.kG_0, DL.gsC_k, DL.gT_k, DL.kPut4_0, DL.kPut3_0, DL.kPut3_1, DL.kPut2_0, DL.kPut2_1, DL.kPut_0, DL.kPut_1, DL.sPut_k, DL.sPar_k, DL.kVar_0, DL.eVar_k, DL.eC_k, DL.kUn_0, DL.kUn_1, DL.eUn_k, DL.eIsi_k, DL.kBin2_0, DL.kBin2_1, DL.kBin_0, DL.kBin_1, DL.eBin_k, DL.aNil_k, DL.kCons2_0, DL.kCons2_1, DL.kCons_0, DL.kCons_1, DL.aCons_k, DL.kApp_0, DL.kApp_1, DL.eApp_k, DL.kMt2_0, DL.kMt2_1, DL.kMt1_0, DL.kMt_0, DL.kMt_1, DL.eMt_k, DL.kTru_0, DL.kTru_1, DL.tTru_k, DL.kAnd_0, DL.kAnd_1, DL.kAnd_2, DL.tAndF_k, DL.kOr_0, DL.kOr_1, DL.kOr_2, DL.tOrF_k, DL.kNot_0, DL.kNot_1, DL.kNot_2, DL.tNotF_k, DL.kEIf_0, DL.kEIf_1, DL.kEIf_2, DL.eIf_k, DL.kEAnd2_0, DL.kEAnd2_1, DL.kEAnd2_2, DL.kEAnd_0, DL.kEAnd_1, DL.eAnd_k, DL.kEOr2_0, DL.kEOr2_1, DL.kEOr2_2, DL.kEOr_0, DL.kEOr_1, DL.eOr_k, DL.kENot2_0, DL.kENot2_1, DL.kENot2_2, DL.kENot_0, DL.kENot_1, DL.eNot_k, DL.kSl3_0, DL.kSl3_1, DL.kSl2_0, DL.kSl2_1, DL.kSl_0, DL.kSl_1, DL.eSl_k, DL.oNone_k, DL.kOS_0, DL.kOS_1, DL.oSome_k, DL.kKw2_0, DL.kKw2_1, DL.kKw_0, DL.kKw_1, DL.eKw_k, DL.truD_bl, DL.blD_bl, DL.addD_i, DL.subD_i, DL.ltI_i, DL.leI_i, DL.gtI_i, DL.geI_i, DL.negD_i, DL.intD_i, DL.intD_b, DL.max2D_i, DL.min2D_i, DL.gcdD_i, DL.lenD_t, DL.lenD_f, DL.isD_nn, DL.isD_in, DL.isD_tn, DL.isD_bn, DL.isD_sn, DL.isD_ib, DL.isD_tb, DL.isD_bb, DL.isD_sb, DL.isD_nb, DL.isnD_bb, DL.isi_i, DL.isi_b, DL.isi_t, DL.isi_s, DL.isi_n, DL.isTy_ii, DL.isTy_bi, DL.isTy_ib, DL.isTy_bb, DL.isTy_tt, DL.isTy_it, DL.isTy_bt, DL.isTy_ti, DL.isTy_is, DL.isTy_bs, DL.isTy_ss, DL.isTy_st, DL.isTy_nt, DL.isTy_ns, DL.isTy_ni, DL.isTy_ts, DL.isTy_si, DL.isTy_tb, DL.mulD_i, DL.modD_i, DL.fdivD_i, DL.powD_i, DL.tupD_k, DL.lstD_k, DL.fnD_k, DL.endR_rt, DL.endR_nx, DL.endR_ex, List.map_cons, List.map_nil, List.replicate_succ, List.replicate_zero, List.cons_append, List.nil_append, List.getElem?_cons_zero, List.getElem?_cons_succ, List.set_cons_zero, List.set_cons_succ, Nat.reduceSub, Nat.reduceAdd, List.length_cons, List.length_nil, List.any_cons, List.any_nil, Bool.or_false, Bool.or_true, Bool.not_true, Bool.not_false, Nat.reduceLeDiff, Bool.false_or, Bool.true_or, DL.trim_eq, DL.sFor_k, DL.kFor_0, DL.cSrc_k, DL.kSrc_0, DL.cApp_k, DL.kSrcA_0, DL.srcD_t, DL.srcD_f, DL.eqD_ii, DL.neD_ii, DL.ix_t0, DL.ix_t1, beq_self_eq_true]
      · subst h2; simp only [DL.kSeq_0, DL.kSeq_1, DL.kSeq_2, DL.kSeq_3, DL.kSeq_4, DL.sSeq_k, DL.sSkip_k, DL.sBreak_k, DL.sCont_k, DL.sRetN_k, DL.kExpr_0, DL.kExpr_1, DL.sExpr_k, DL.kRet_0, DL.kRet_1, DL.sRet_k, DL.kIf_0, DL.kIf_1, DL.kIf_2, DL.sIf_k, DL.kAsg2_0, DL.kAsg_0, DL.kAsg_1, DL.sAsg_k, DL.sSet_k, DL.gN_k, DL.gsN_k, DL.kG_0, DL.gsC_k, DL.gT_k, DL.kPut4_0, DL.kPut3_0, DL.kPut3_1, DL.kPut2_0, DL.kPut2_1, DL.kPut_0, DL.kPut_1, DL.sPut_k, DL.sPar_k, DL.kVar_0, DL.eVar_k, DL.eC_k, DL.kUn_0, DL.kUn_1, DL.eUn_k, DL.eIsi_k, DL.kBin2_0, DL.kBin2_1, DL.kBin_0, DL.kBin_1, DL.eBin_k, DL.aNil_k, DL.kCons2_0, DL.kCons2_1, DL.kCons_0, DL.kCons_1, DL.aCons_k, DL.kApp_0, DL.kApp_1, DL.eApp_k, DL.kMt2_0, DL.kMt2_1, DL.kMt1_0, DL.kMt_0, DL.kMt_1, DL.eMt_k, DL.kTru_0, DL.kTru_1, DL.tTru_k, DL.kAnd_0, DL.kAnd_1, DL.kAnd_2, DL.tAndF_k, DL.kOr_0, DL.kOr_1, DL.kOr_2, DL.tOrF_k, DL.kNot_0, DL.kNot_1, DL.kNot_2, DL.tNotF_k, DL.kEIf_0, DL.kEIf_1, DL.kEIf_2, DL.eIf_k, DL.kEAnd2_0, DL.kEAnd2_1, DL.kEAnd2_2, DL.kEAnd_0, DL.kEAnd_1, DL.eAnd_k, DL.kEOr2_0, DL.kEOr2_1, DL.kEOr2_2, DL.kEOr_0, DL.kEOr_1, DL.eOr_k, DL.kENot2_0, DL.kENot2_1, DL.kENot2_2, DL.kENot_0, DL.kENot_1, DL.eNot_k, DL.kSl3_0, DL.kSl3_1, DL.kSl2_0, DL.kSl2_1, DL.kSl_0, DL.kSl_1, DL.eSl_k, DL.oNone_k, DL.kOS_0, DL.kOS_1, DL.oSome_k, DL.kKw2_0, DL.kKw2_1, DL.kKw_0, DL.kKw_1, DL.eKw_k, DL.truD_bl, DL.blD_bl, DL.addD_i, DL.subD_i, DL.ltI_i, DL.leI_i, DL.gtI_i, DL.geI_i, DL.negD_i, DL.intD_i, DL.intD_b, DL.max2D_i, DL.min2D_i, DL.gcdD_i, DL.lenD_t, DL.lenD_f, DL.isD_nn, DL.isD_in, DL.isD_tn, DL.isD_bn, DL.isD_sn, DL.isD_ib, DL.isD_tb, DL.isD_bb, DL.isD_sb, DL.isD_nb, DL.isnD_bb, DL.isi_i, DL.isi_b, DL.isi_t, DL.isi_s, DL.isi_n, DL.isTy_ii, DL.isTy_bi, DL.isTy_ib, DL.isTy_bb, DL.isTy_tt, DL.isTy_it, DL.isTy_bt, DL.isTy_ti, DL.isTy_is, DL.isTy_bs, DL.isTy_ss, DL.isTy_st, DL.isTy_nt, DL.isTy_ns, DL.isTy_ni, DL.isTy_ts, DL.isTy_si, DL.isTy_tb, DL.mulD_i, DL.modD_i, DL.fdivD_i, DL.powD_i, DL.tupD_k, DL.lstD_k, DL.fnD_k, DL.endR_rt, DL.endR_nx, DL.endR_ex, List.map_cons, List.map_nil, List.replicate_succ, List.replicate_zero, List.cons_append, List.nil_append, List.getElem?_cons_zero, List.getElem?_cons_succ, List.set_cons_zero, List.set_cons_succ, Nat.reduceSub, Nat.reduceAdd, List.length_cons, List.length_nil, List.any_cons, List.any_nil, Bool.or_false, Bool.or_true, Bool.not_true, Bool.not_false, Nat.reduceLeDiff, Bool.false_or, Bool.true_or, DL.trim_eq, DL.sFor_k, DL.kFor_0, DL.cSrc_k, DL.kSrc_0, DL.cApp_k, DL.kSrcA_0, DL.srcD_t, DL.srcD_f, DL.eqD_ii, DL.neD_ii, DL.ix_t0, DL.ix_t1, beq_self_eq_true, show ((3 : Int) == 2) = false from rfl]
    simp only [B__law_fraction, S__law_fraction_0, S__law_fraction_1, S__law_fraction_2, DL.kSeq_0, DL.kSeq_1, DL.kSeq_2, DL.kSeq_3, DL.kSeq_4, DL.sSeq_k, DL.sSkip_k, DL.sBreak_k, DL.sCont_k, DL.sRetN_k, DL.kExpr_0, DL.kExpr_1, DL.sExpr_k, DL.kRet_0, DL.kRet_1, DL.sRet_k, DL.kIf_0, DL.kIf_1, DL.kIf_2, DL.sIf_k, DL.kAsg2_0, DL.kAsg_0, DL.kAsg_1, DL.sAsg_k, DL.sSet_k, DL.gN_k, DL.gsN_k, DL.kG_0, DL.gsC_k, DL.gT_k, DL.kPut4_0, DL.kPut3_0, DL.kPut3_1, DL.kPut2_0, DL.kPut2_1, DL.kPut_0, DL.kPut_1, DL.sPut_k, DL.sPar_k, DL.kVar_0, DL.eVar_k, DL.eC_k, DL.kUn_0, DL.kUn_1, DL.eUn_k, DL.eIsi_k, DL.kBin2_0, DL.kBin2_1, DL.kBin_0, DL.kBin_1, DL.eBin_k, DL.aNil_k, DL.kCons2_0, DL.kCons2_1, DL.kCons_0, DL.kCons_1, DL.aCons_k, DL.kApp_0, DL.kApp_1, DL.eApp_k, DL.kMt2_0, DL.kMt2_1, DL.kMt1_0, DL.kMt_0, DL.kMt_1, DL.eMt_k, DL.kTru_0, DL.kTru_1, DL.tTru_k, DL.kAnd_0, DL.kAnd_1, DL.kAnd_2, DL.tAndF_k, DL.kOr_0, DL.kOr_1, DL.kOr_2, DL.tOrF_k, DL.kNot_0, DL.kNot_1, DL.kNot_2, DL.tNotF_k, DL.kEIf_0, DL.kEIf_1, DL.kEIf_2, DL.eIf_k, DL.kEAnd2_0, DL.kEAnd2_1, DL.kEAnd2_2, DL.kEAnd_0, DL.kEAnd_1, DL.eAnd_k, DL.kEOr2_0, DL.kEOr2_1, DL.kEOr2_2, DL.kEOr_0, DL.kEOr_1, DL.eOr_k, DL.kENot2_0, DL.kENot2_1, DL.kENot2_2, DL.kENot_0, DL.kENot_1, DL.eNot_k, DL.kSl3_0, DL.kSl3_1, DL.kSl2_0, DL.kSl2_1, DL.kSl_0, DL.kSl_1, DL.eSl_k, DL.oNone_k, DL.kOS_0, DL.kOS_1, DL.oSome_k, DL.kKw2_0, DL.kKw2_1, DL.kKw_0, DL.kKw_1, DL.eKw_k, DL.truD_bl, DL.blD_bl, DL.addD_i, DL.subD_i, DL.ltI_i, DL.leI_i, DL.gtI_i, DL.geI_i, DL.negD_i, DL.intD_i, DL.intD_b, DL.max2D_i, DL.min2D_i, DL.gcdD_i, DL.lenD_t, DL.lenD_f, DL.isD_nn, DL.isD_in, DL.isD_tn, DL.isD_bn, DL.isD_sn, DL.isD_ib, DL.isD_tb, DL.isD_bb, DL.isD_sb, DL.isD_nb, DL.isnD_bb, DL.isi_i, DL.isi_b, DL.isi_t, DL.isi_s, DL.isi_n, DL.isTy_ii, DL.isTy_bi, DL.isTy_ib, DL.isTy_bb, DL.isTy_tt, DL.isTy_it, DL.isTy_bt, DL.isTy_ti, DL.isTy_is, DL.isTy_bs, DL.isTy_ss, DL.isTy_st, DL.isTy_nt, DL.isTy_ns, DL.isTy_ni, DL.isTy_ts, DL.isTy_si, DL.isTy_tb, DL.mulD_i, DL.modD_i, DL.fdivD_i, DL.powD_i, DL.tupD_k, DL.lstD_k, DL.fnD_k, DL.endR_rt, DL.endR_nx, DL.endR_ex, List.map_cons, List.map_nil, List.replicate_succ, List.replicate_zero, List.cons_append, List.nil_append, List.getElem?_cons_zero, List.getElem?_cons_succ, List.set_cons_zero, List.set_cons_succ, Nat.reduceSub, Nat.reduceAdd, List.length_cons, List.length_nil, List.any_cons, List.any_nil, Bool.or_false, Bool.or_true, Bool.not_true, Bool.not_false, Nat.reduceLeDiff, Bool.false_or, Bool.true_or, DL.trim_eq, DL.sFor_k, DL.kFor_0, DL.cSrc_k, DL.kSrc_0, DL.cApp_k, DL.kSrcA_0, DL.srcD_t, DL.srcD_f, DL.eqD_ii, DL.neD_ii, DL.ix_t0, DL.ix_t1, e1, b0, b1]
    unfold S__law_fraction_3
    rw [sIf_k, cond]
    simp only [DL.kSeq_0, DL.kSeq_1, DL.kSeq_2, DL.kSeq_3, DL.kSeq_4, DL.sSeq_k, DL.sSkip_k, DL.sBreak_k, DL.sCont_k, DL.sRetN_k, DL.kExpr_0, DL.kExpr_1, DL.sExpr_k, DL.kRet_0, DL.kRet_1, DL.sRet_k, DL.kIf_0, DL.kIf_1, DL.kIf_2, DL.sIf_k, DL.kAsg2_0, DL.kAsg_0, DL.kAsg_1, DL.sAsg_k, DL.sSet_k, DL.gN_k, DL.gsN_k, DL.kG_0, DL.gsC_k, DL.gT_k, DL.kPut4_0, DL.kPut3_0, DL.kPut3_1, DL.kPut2_0, DL.kPut2_1, DL.kPut_0, DL.kPut_1, DL.sPut_k, DL.sPar_k, DL.kVar_0, DL.eVar_k, DL.eC_k, DL.kUn_0, DL.kUn_1, DL.eUn_k, DL.eIsi_k, DL.kBin2_0, DL.kBin2_1, DL.kBin_0, DL.kBin_1, DL.eBin_k, DL.aNil_k, DL.kCons2_0, DL.kCons2_1, DL.kCons_0, DL.kCons_1, DL.aCons_k, DL.kApp_0, DL.kApp_1, DL.eApp_k, DL.kMt2_0, DL.kMt2_1, DL.kMt1_0, DL.kMt_0, DL.kMt_1, DL.eMt_k, DL.kTru_0, DL.kTru_1, DL.tTru_k, DL.kAnd_0, DL.kAnd_1, DL.kAnd_2, DL.tAndF_k, DL.kOr_0, DL.kOr_1, DL.kOr_2, DL.tOrF_k, DL.kNot_0, DL.kNot_1, DL.kNot_2, DL.tNotF_k, DL.kEIf_0, DL.kEIf_1, DL.kEIf_2, DL.eIf_k, DL.kEAnd2_0, DL.kEAnd2_1, DL.kEAnd2_2, DL.kEAnd_0, DL.kEAnd_1, DL.eAnd_k, DL.kEOr2_0, DL.kEOr2_1, DL.kEOr2_2, DL.kEOr_0, DL.kEOr_1, DL.eOr_k, DL.kENot2_0, DL.kENot2_1, DL.kENot2_2, DL.kENot_0, DL.kENot_1, DL.eNot_k, DL.kSl3_0, DL.kSl3_1, DL.kSl2_0, DL.kSl2_1, DL.kSl_0, DL.kSl_1, DL.eSl_k, DL.oNone_k, DL.kOS_0, DL.kOS_1, DL.oSome_k, DL.kKw2_0, DL.kKw2_1, DL.kKw_0, DL.kKw_1, DL.eKw_k, DL.truD_bl, DL.blD_bl, DL.addD_i, DL.subD_i, DL.ltI_i, DL.leI_i, DL.gtI_i, DL.geI_i, DL.negD_i, DL.intD_i, DL.intD_b, DL.max2D_i, DL.min2D_i, DL.gcdD_i, DL.lenD_t, DL.lenD_f, DL.isD_nn, DL.isD_in, DL.isD_tn, DL.isD_bn, DL.isD_sn, DL.isD_ib, DL.isD_tb, DL.isD_bb, DL.isD_sb, DL.isD_nb, DL.isnD_bb, DL.isi_i, DL.isi_b, DL.isi_t, DL.isi_s, DL.isi_n, DL.isTy_ii, DL.isTy_bi, DL.isTy_ib, DL.isTy_bb, DL.isTy_tt, DL.isTy_it, DL.isTy_bt, DL.isTy_ti, DL.isTy_is, DL.isTy_bs, DL.isTy_ss, DL.isTy_st, DL.isTy_nt, DL.isTy_ns, DL.isTy_ni, DL.isTy_ts, DL.isTy_si, DL.isTy_tb, DL.mulD_i, DL.modD_i, DL.fdivD_i, DL.powD_i, DL.tupD_k, DL.lstD_k, DL.fnD_k, DL.endR_rt, DL.endR_nx, DL.endR_ex, List.map_cons, List.map_nil, List.replicate_succ, List.replicate_zero, List.cons_append, List.nil_append, List.getElem?_cons_zero, List.getElem?_cons_succ, List.set_cons_zero, List.set_cons_succ, Nat.reduceSub, Nat.reduceAdd, List.length_cons, List.length_nil, List.any_cons, List.any_nil, Bool.or_false, Bool.or_true, Bool.not_true, Bool.not_false, Nat.reduceLeDiff, Bool.false_or, Bool.true_or, DL.trim_eq, DL.sFor_k, DL.kFor_0, DL.cSrc_k, DL.kSrc_0, DL.cApp_k, DL.kSrcA_0, DL.srcD_t, DL.srcD_f, DL.eqD_ii, DL.neD_ii, DL.ix_t0, DL.ix_t1, e2, e3, lw]
    rfl
  have b2 : (c == 2) = false := beq_eq_false_iff_ne.mpr fun e => h2 (.inl e)
  have b3 : (c == 3) = false := beq_eq_false_iff_ne.mpr fun e => h2 (.inr e)
  -- the test c == 4 or others == []
  have hl1 := F1.lst hl n1 n2
  have l1 : (s1 ++ [Cell.lst []])[l]? = some (.lst (xs.map mo)) := by rw [List.getElem?_append_left (List.getElem?_eq_some_iff.mp hl1).1]; exact hl1
  have l2 : (s1 ++ [Cell.lst []])[s1.length]? = some (.lst []) := by simp
  have eq0 := eqD_mo l1 l2
  obtain ⟨tb, s2, cond, B2, F2, hno⟩ : ∃ (tb : Bool) (s2 : Sto), tOrF (tTru blD (eBin eqD (eVar 2) (eC (.int 4)))) (tTru blD (eBin eqD (eVar 1) (eApp lstD aNil))) [.d (.loc b), .d (.loc l), .d (.int c), .un, .un, .un, .un] s1 = .ok tb s2 ∧ Box s2 b g (n + 7) ∧ Fr b g s s2 ∧ (tb = false → xs ≠ []) := by
    by_cases h4 : c = 4
    · exact ⟨true, s1, by subst h4; simp only [DL.kSeq_0, DL.kSeq_1, DL.kSeq_2, DL.kSeq_3, DL.kSeq_4, DL.sSeq_k, DL.sSkip_k, DL.sBreak_k, DL.sCont_k, DL.sRetN_k, DL.kExpr_0, DL.kExpr_1, DL.sExpr_k, DL.kRet_0, DL.kRet_1, DL.sRet_k, DL.kIf_0, DL.kIf_1, DL.kIf_2, DL.sIf_k, DL.kAsg2_0, DL.kAsg_0, DL.kAsg_1, DL.sAsg_k, DL.sSet_k, DL.gN_k, DL.gsN_k, DL.kG_0, DL.gsC_k, DL.gT_k, DL.kPut4_0, DL.kPut3_0, DL.kPut3_1, DL.kPut2_0, DL.kPut2_1, DL.kPut_0, DL.kPut_1, DL.sPut_k, DL.sPar_k, DL.kVar_0, DL.eVar_k, DL.eC_k, DL.kUn_0, DL.kUn_1, DL.eUn_k, DL.eIsi_k, DL.kBin2_0, DL.kBin2_1, DL.kBin_0, DL.kBin_1, DL.eBin_k, DL.aNil_k, DL.kCons2_0, DL.kCons2_1, DL.kCons_0, DL.kCons_1, DL.aCons_k, DL.kApp_0, DL.kApp_1, DL.eApp_k, DL.kMt2_0, DL.kMt2_1, DL.kMt1_0, DL.kMt_0, DL.kMt_1, DL.eMt_k, DL.kTru_0, DL.kTru_1, DL.tTru_k, DL.kAnd_0, DL.kAnd_1, DL.kAnd_2, DL.tAndF_k, DL.kOr_0, DL.kOr_1, DL.kOr_2, DL.tOrF_k, DL.kNot_0, DL.kNot_1, DL.kNot_2, DL.tNotF_k, DL.kEIf_0, DL.kEIf_1, DL.kEIf_2, DL.eIf_k, DL.kEAnd2_0, DL.kEAnd2_1, DL.kEAnd2_2, DL.kEAnd_0, DL.kEAnd_1, DL.eAnd_k, DL.kEOr2_0, DL.kEOr2_1, DL.kEOr2_2, DL.kEOr_0, DL.kEOr_1, DL.eOr_k, DL.kENot2_0, DL.kENot2_1, DL.kENot2_2, DL.kENot_0, DL.kENot_1, DL.eNot_k, DL.kSl3_0, DL.kSl3_1, DL.kSl2_0, DL.kSl2_1, DL.kSl_0, DL.kSl_1, DL.eSl_k, DL.oNone_k, DL.kOS_0, DL.kOS_1, DL.oSome_k, DL.kKw2_0, DL.kKw2_1, DL.kKw_0, DL.kKw_1, DL.eKw_k, DL.truD_bl, DL.blD_bl, DL.addD_i, DL.subD_i, DL.ltI_i, DL.leI_i, DL.gtI_i, DL.geI_i, DL.negD_i, DL.intD_i, DL.intD_b, DL.max2D_i, DL.min2D_i, DL.gcdD_i, DL.lenD_t, DL.lenD_f, DL.isD_nn, DL.isD_in, DL.isD_tn, DL.isD_bn, DL.isD_sn, DL.isD_ib, DL.isD_tb, DL.isD_bb, DL.isD_sb, DL.isD_nb, DL.isnD_bb, DL.isi_i, DL.isi_b, DL.isi_t, DL.isi_s, DL.isi_n, DL.isTy_ii, DL.isTy_bi, DL.isTy_ib, DL.isTy_bb, DL.isTy_tt, DL.isTy_it, DL.isTy_bt, DL.isTy_ti, DL.isTy_is, DL.isTy_bs, DL.isTy_ss, DL.isTy_st, DL.isTy_nt, DL.isTy_ns, DL.isTy_ni, DL.isTy_ts, DL.isTy_si, DL.isTy_tb, DL.mulD_i, DL.modD_i, DL.fdivD_i, DL.powD_i, DL.tupD_k, DL.lstD_k, DL.fnD_k, DL.endR_rt, DL.endR_nx, DL.endR_ex, List.map_cons, List.map_nil, List.replicate_succ, List.replicate_zero, List.cons_append, List.nil_append, List.getElem?_cons_zero, List.getElem?_cons_succ, List.set_cons_zero, List.set_cons_succ, Nat.reduceSub, Nat.reduceAdd, List.length_cons, List.length_nil, List.any_cons, List.any_nil, Bool.or_false, Bool.or_true, Bool.not_true, Bool.not_false, Nat.reduceLeDiff, Bool.false_or, Bool.true_or, DL.trim_eq, DL.sFor_k, DL.kFor_0, DL.cSrc_k, DL.kSrc_0, DL.cApp_k, DL.kSrcA_0, DL.srcD_t, DL.srcD_f, DL.eqD_ii, DL.neD_ii, DL.ix_t0, DL.ix_t1, beq_self_eq_true], B1, F1, fun z => by cases z⟩
    · have b4 : (c == 4) = false := beq_eq_false_iff_ne.mpr h4
      refine ⟨xs.isEmpty, s1 ++ [.lst []], ?_, B1.app _, F1.trans (Fr.app _), fun z e => by rw [e] at z; cases z⟩
      simp only [DL.kSeq_0, DL.kSeq_1, DL.kSeq_2, DL.kSeq_3, DL.kSeq_4, DL.sSeq_k, DL.sSkip_k, DL.sBreak_k, DL.sCont_k, DL.sRetN_k, DL.kExpr_0, DL.kExpr_1, DL.sExpr_k, DL.kRet_0, DL.kRet_1, DL.sRet_k, DL.kIf_0, DL.kIf_1, DL.kIf_2, DL.sIf_k, DL.kAsg2_0, DL.kAsg_0, DL.kAsg_1, DL.sAsg_k, DL.sSet_k, DL.gN_k, DL.gsN_k, DL.kG_0, DL.gsC_k, DL.gT_k, DL.kPut4_0, DL.kPut3_0, DL.kPut3_1, DL.kPut2_0, DL.kPut2_1, DL.kPut_0, DL.kPut_1, DL.sPut_k, DL.sPar_k, DL.kVar_0, DL.eVar_k, DL.eC_k, DL.kUn_0, DL.kUn_1, DL.eUn_k, DL.eIsi_k, DL.kBin2_0, DL.kBin2_1, DL.kBin_0, DL.kBin_1, DL.eBin_k, DL.aNil_k, DL.kCons2_0, DL.kCons2_1, DL.kCons_0, DL.kCons_1, DL.aCons_k, DL.kApp_0, DL.kApp_1, DL.eApp_k, DL.kMt2_0, DL.kMt2_1, DL.kMt1_0, DL.kMt_0, DL.kMt_1, DL.eMt_k, DL.kTru_0, DL.kTru_1, DL.tTru_k, DL.kAnd_0, DL.kAnd_1, DL.kAnd_2, DL.tAndF_k, DL.kOr_0, DL.kOr_1, DL.kOr_2, DL.tOrF_k, DL.kNot_0, DL.kNot_1, DL.kNot_2, DL.tNotF_k, DL.kEIf_0, DL.kEIf_1, DL.kEIf_2, DL.eIf_k, DL.kEAnd2_0, DL.kEAnd2_1, DL.kEAnd2_2, DL.kEAnd_0, DL.kEAnd_1, DL.eAnd_k, DL.kEOr2_0, DL.kEOr2_1, DL.kEOr2_2, DL.kEOr_0, DL.kEOr_1, DL.eOr_k, DL.kENot2_0, DL.kENot2_1, DL.kENot2_2, DL.kENot_0, DL.kENot_1, DL.eNot_k, DL.kSl3_0, DL.kSl3_1, DL.kSl2_0, DL.kSl2_1, DL.kSl_0, DL.kSl_1, DL.eSl_k, DL.oNone_k, DL.kOS_0, DL.kOS_1, DL.oSome_k, DL.kKw2_0, DL.kKw2_1, DL.kKw_0, DL.kKw_1, DL.eKw_k, DL.truD_bl, DL.blD_bl, DL.addD_i, DL.subD_i, DL.ltI_i, DL.leI_i, DL.gtI_i, DL.geI_i, DL.negD_i, DL.intD_i, DL.intD_b, DL.max2D_i, DL.min2D_i, DL.gcdD_i, DL.lenD_t, DL.lenD_f, DL.isD_nn, DL.isD_in, DL.isD_tn, DL.isD_bn, DL.isD_sn, DL.isD_ib, DL.isD_tb, DL.isD_bb, DL.isD_sb, DL.isD_nb, DL.isnD_bb, DL.isi_i, DL.isi_b, DL.isi_t, DL.isi_s, DL.isi_n, DL.isTy_ii, DL.isTy_bi, DL.isTy_ib, DL.isTy_bb, DL.isTy_tt, DL.isTy_it, DL.isTy_bt, DL.isTy_ti, DL.isTy_is, DL.isTy_bs, DL.isTy_ss, DL.isTy_st, DL.isTy_nt, DL.isTy_ns, DL.isTy_ni, DL.isTy_ts, DL.isTy_si, DL.isTy_tb, DL.mulD_i, DL.modD_i, DL.fdivD_i, DL.powD_i, DL.tupD_k, DL.lstD_k, DL.fnD_k, DL.endR_rt, DL.endR_nx, DL.endR_ex, List.map_cons, List.map_nil, List.replicate_succ, List.replicate_zero, List.cons_append, List.nil_append, List.getElem?_cons_zero, List.getElem?_cons_succ, List.set_cons_zero, List.set_cons_succ, Nat.reduceSub, Nat.reduceAdd, List.length_cons, List.length_nil, List.any_cons, List.any_nil, Bool.or_false, Bool.or_true, Bool.not_true, Bool.not_false, Nat.reduceLeDiff, Bool.false_or, Bool.true_or, DL.trim_eq, DL.sFor_k, DL.kFor_0, DL.cSrc_k, DL.kSrc_0, DL.cApp_k, DL.kSrcA_0, DL.srcD_t, DL.srcD_f, DL.eqD_ii, DL.neD_ii, DL.ix_t0, DL.ix_t1, b4, eq0]
  have pre : B__law_fraction [.d (.loc b), .d (.loc l), .un, .un, .un, .un, .un] s = sSeq S__law_fraction_4 (sSeq S__law_fraction_5 (sSeq S__law_fraction_6 (sSeq S__law_fraction_7 (sSeq S__law_fraction_8 (sSeq S__law_fraction_9 S__law_fraction_10))))) [.d (.loc b), .d (.loc l), .d (.int c), .un, .un, .un, .un] s1 := by
    unfold B__law_fraction
    rw [seq_nx (ρ' := [.d (.loc b), .d (.loc l), .d (.int c), .un, .un, .un, .un]) (s' := s1) (by simp only [S__law_fraction_0, DL.kSeq_0, DL.kSeq_1, DL.kSeq_2, DL.kSeq_3, DL.kSeq_4, DL.sSeq_k, DL.sSkip_k, DL.sBreak_k, DL.sCont_k, DL.sRetN_k, DL.kExpr_0, DL.kExpr_1, DL.sExpr_k, DL.kRet_0, DL.kRet_1, DL.sRet_k, DL.kIf_0, DL.kIf_1, DL.kIf_2, DL.sIf_k, DL.kAsg2_0, DL.kAsg_0, DL.kAsg_1, DL.sAsg_k, DL.sSet_k, DL.gN_k, DL.gsN_k, DL.kG_0, DL.gsC_k, DL.gT_k, DL.kPut4_0, DL.kPut3_0, DL.kPut3_1, DL.kPut2_0, DL.kPut2_1, DL.kPut_0, DL.kPut_1, DL.sPut_k, DL.sPar_k, DL.kVar_0, DL.eVar_k, DL.eC_k, DL.kUn_0, DL.kUn_1, DL.eUn_k, DL.eIsi_k, DL.kBin2_0, DL.kBin2_1, DL.kBin_0, DL.kBin_1, DL.eBin_k, DL.aNil_k, DL.kCons2_0, DL.kCons2_1, DL.kCons_0, DL.kCons_1, DL.aCons_k, DL.kApp_0, DL.kApp_1, DL.eApp_k, DL.kMt2_0, DL.kMt2_1, DL.kMt1_0, DL.kMt_0, DL.kMt_1, DL.eMt_k, DL.kTru_0, DL.kTru_1, DL.tTru_k, DL.kAnd_0, DL.kAnd_1, DL.kAnd_2, DL.tAndF_k, DL.kOr_0, DL.kOr_1, DL.kOr_2, DL.tOrF_k, DL.kNot_0, DL.kNot_1, DL.kNot_2, DL.tNotF_k, DL.kEIf_0, DL.kEIf_1, DL.kEIf_2, DL.eIf_k, DL.kEAnd2_0, DL.kEAnd2_1, DL.kEAnd2_2, DL.kEAnd_0, DL.kEAnd_1, DL.eAnd_k, DL.kEOr2_0, DL.kEOr2_1, DL.kEOr2_2, DL.kEOr_0, DL.kEOr_1, DL.eOr_k, DL.kENot2_0, DL.kENot2_1, DL.kENot2_2, DL.kENot_0, DL.kENot_1, DL.eNot_k, DL.kSl3_0, DL.kSl3_1, DL.kSl2_0, DL.kSl2_1, DL.kSl_0, DL.kSl_1, DL.eSl_k, DL.oNone_k, DL.kOS_0, DL.kOS_1, DL.oSome_k, DL.kKw2_0, DL.kKw2_1, DL.kKw_0, DL.kKw_1, DL.eKw_k, DL.truD_bl, DL.blD_bl, DL.addD_i, DL.subD_i, DL.ltI_i, DL.leI_i, DL.gtI_i, DL.geI_i, DL.negD_i, DL.intD_i, DL.intD_b, DL.max2D_i, DL.min2D_i, DL.gcdD_i, DL.lenD_t, DL.lenD_f, DL.isD_nn, DL.isD_in, DL.isD_tn, DL.isD_bn, DL.isD_sn, DL.isD_ib, DL.isD_tb, DL.isD_bb, DL.isD_sb, DL.isD_nb, DL.isnD_bb, DL.isi_i, DL.isi_b, DL.isi_t, DL.isi_s, DL.isi_n, DL.isTy_ii, DL.isTy_bi, DL.isTy_ib, DL.isTy_bb, DL.isTy_tt, DL.isTy_it, DL.isTy_bt, DL.isTy_ti, DL.isTy_is, DL.isTy_bs, DL.isTy_ss, DL.isTy_st, DL.isTy_nt, DL.isTy_ns, DL.isTy_ni, DL.isTy_ts, DL.isTy_si, DL.isTy_tb, DL.mulD_i, DL.modD_i, DL.fdivD_i, DL.powD_i, DL.tupD_k, DL.lstD_k, DL.fnD_k, DL.endR_rt, DL.endR_nx, DL.endR_ex, List.map_cons, List.map_nil, List.replicate_succ, List.replicate_zero, List.cons_append, List.nil_append, List.getElem?_cons_zero, List.getElem?_cons_succ, List.set_cons_zero, List.set_cons_succ, Nat.reduceSub, Nat.reduceAdd, List.length_cons, List.length_nil, List.any_cons, List.any_nil, Bool.or_false, Bool.or_true, Bool.not_true, Bool.not_false, Nat.reduceLeDiff, Bool.false_or, Bool.true_or, DL.trim_eq, DL.sFor_k, DL.kFor_0, DL.cSrc_k, DL.kSrc_0, DL.cApp_k, DL.kSrcA_0, DL.srcD_t, DL.srcD_f, DL.eqD_ii, DL.neD_ii, DL.ix_t0, DL.ix_t1, e1])]
    rw [seq_nx (ρ' := [.d (.loc b), .d (.loc l), .d (.int c), .un, .un, .un, .un]) (s' := s1) (by simp only [S__law_fraction_1, DL.kSeq_0, DL.kSeq_1, DL.kSeq_2, DL.kSeq_3, DL.kSeq_4, DL.sSeq_k, DL.sSkip_k, DL.sBreak_k, DL.sCont_k, DL.sRetN_k, DL.kExpr_0, DL.kExpr_1, DL.sExpr_k, DL.kRet_0, DL.kRet_1, DL.sRet_k, DL.kIf_0, DL.kIf_1, DL.kIf_2, DL.sIf_k, DL.kAsg2_0, DL.kAsg_0, DL.kAsg_1, DL.sAsg_k, DL.sSet_k, DL.gN_k, DL.gsN_k, DL.kG_0, DL.gsC_k, DL.gT_k, DL.kPut4_0, DL.kPut3_0, DL.kPut3_1, DL.kPut2_0, DL.kPut2_1, DL.kPut_0, DL.kPut_1, DL.sPut_k, DL.sPar_k, DL.kVar_0, DL.eVar_k, DL.eC_k, DL.kUn_0, DL.kUn_1, DL.eUn_k, DL.eIsi_k, DL.kBin2_0, DL.kBin2_1, DL.kBin_0, DL.kBin_1, DL.eBin_k, DL.aNil_k, DL.kCons2_0, DL.kCons2_1, DL.kCons_0, DL.kCons_1, DL.aCons_k, DL.kApp_0, DL.kApp_1, DL.eApp_k, DL.kMt2_0, DL.kMt2_1, DL.kMt1_0, DL.kMt_0, DL.kMt_1, DL.eMt_k, DL.kTru_0, DL.kTru_1, DL.tTru_k, DL.kAnd_0, DL.kAnd_1, DL.kAnd_2, DL.tAndF_k, DL.kOr_0, DL.kOr_1, DL.kOr_2, DL.tOrF_k, DL.kNot_0, DL.kNot_1, DL.kNot_2, DL.tNotF_k, DL.kEIf_0, DL.kEIf_1, DL.kEIf_2, DL.eIf_k, DL.kEAnd2_0, DL.kEAnd2_1, DL.kEAnd2_2, DL.kEAnd_0, DL.kEAnd_1, DL.eAnd_k, DL.kEOr2_0, DL.kEOr2_1, DL.kEOr2_2, DL.kEOr_0, DL.kEOr_1, DL.eOr_k, DL.kENot2_0, DL.kENot2_1, DL.kENot2_2, DL.kENot_0, DL.kENot_1, DL.eNot_k, DL.kSl3_0, DL.kSl3_1, DL.kSl2_0, DL.kSl2_1, DL.kSl_0, DL.kSl_1, DL.eSl_k, DL.oNone_k, DL.kOS_0, DL.kOS_1, DL.oSome_k, DL.kKw2_0, DL.kKw2_1, DL.kKw_0, DL.kKw_1, DL.eKw_k, DL.truD_bl, DL.blD_bl, DL.addD_i, DL.subD_i, DL.ltI_i, DL.leI_i, DL.gtI_i, DL.geI_i, DL.negD_i, DL.intD_i, DL.intD_b, DL.max2D_i, DL.min2D_i, DL.gcdD_i, DL.lenD_t, DL.lenD_f, DL.isD_nn, DL.isD_in, DL.isD_tn, DL.isD_bn, DL.isD_sn, DL.isD_ib, DL.isD_tb, DL.isD_bb, DL.isD_sb, DL.isD_nb, DL.isnD_bb, DL.isi_i, DL.isi_b, DL.isi_t, DL.isi_s, DL.isi_n, DL.isTy_ii, DL.isTy_bi, DL.isTy_ib, DL.isTy_bb, DL.isTy_tt, DL.isTy_it, DL.isTy_bt, DL.isTy_ti, DL.isTy_is, DL.isTy_bs, DL.isTy_ss, DL.isTy_st, DL.isTy_nt, DL.isTy_ns, DL.isTy_ni, DL.isTy_ts, DL.isTy_si, DL.isTy_tb, DL.mulD_i, DL.modD_i, DL.fdivD_i, DL.powD_i, DL.tupD_k, DL.lstD_k, DL.fnD_k, DL.endR_rt, DL.endR_nx, DL.endR_ex, List.map_cons, List.map_nil, List.replicate_succ, List.replicate_zero, List.cons_append, List.nil_append, List.getElem?_cons_zero, List.getElem?_cons_succ, List.set_cons_zero, List.set_cons_succ, Nat.reduceSub, Nat.reduceAdd, List.length_cons, List.length_nil, List.any_cons, List.any_nil, Bool.or_false, Bool.or_true, Bool.not_true, Bool.not_false, Nat.reduceLeDiff, Bool.false_or, Bool.true_or, DL.trim_eq, DL.sFor_k, DL.kFor_0, DL.cSrc_k, DL.kSrc_0, DL.cApp_k, DL.kSrcA_0, DL.srcD_t, DL.srcD_f, DL.eqD_ii, DL.neD_ii, DL.ix_t0, DL.ix_t1, b0])]
    rw [seq_nx (ρ' := [.d (.loc b), .d (.loc l), .d (.int c), .un, .un, .un, .un]) (s' := s1) (by simp only [S__law_fraction_2, DL.kSeq_0, DL.kSeq_1, DL.kSeq_2, DL.kSeq_3, DL.kSeq_4, DL.sSeq_k, DL.sSkip_k, DL.sBreak_k, DL.sCont_k, DL.sRetN_k, DL.kExpr_0, DL.kExpr_1, DL.sExpr_k, DL.kRet_0, DL.kRet_1, DL.sRet_k, DL.kIf_0, DL.kIf_1, DL.kIf_2, DL.sIf_k, DL.kAsg2_0, DL.kAsg_0, DL.kAsg_1, DL.sAsg_k, DL.sSet_k, DL.gN_k, DL.gsN_k, DL.kG_0, DL.gsC_k, DL.gT_k, DL.kPut4_0, DL.kPut3_0, DL.kPut3_1, DL.kPut2_0, DL.kPut2_1, DL.kPut_0, DL.kPut_1, DL.sPut_k, DL.sPar_k, DL.kVar_0, DL.eVar_k, DL.eC_k, DL.kUn_0, DL.kUn_1, DL.eUn_k, DL.eIsi_k, DL.kBin2_0, DL.kBin2_1, DL.kBin_0, DL.kBin_1, DL.eBin_k, DL.aNil_k, DL.kCons2_0, DL.kCons2_1, DL.kCons_0, DL.kCons_1, DL.aCons_k, DL.kApp_0, DL.kApp_1, DL.eApp_k, DL.kMt2_0, DL.kMt2_1, DL.kMt1_0, DL.kMt_0, DL.kMt_1, DL.eMt_k, DL.kTru_0, DL.kTru_1, DL.tTru_k, DL.kAnd_0, DL.kAnd_1, DL.kAnd_2, DL.tAndF_k, DL.kOr_0, DL.kOr_1, DL.kOr_2, DL.tOrF_k, DL.kNot_0, DL.kNot_1, DL.kNot_2, DL.tNotF_k, DL.kEIf_0, DL.kEIf_1, DL.kEIf_2, DL.eIf_k, DL.kEAnd2_0, DL.kEAnd2_1, DL.kEAnd2_2, DL.kEAnd_0, DL.kEAnd_1, DL.eAnd_k, DL.kEOr2_0, DL.kEOr2_1, DL.kEOr2_2, DL.kEOr_0, DL.kEOr_1, DL.eOr_k, DL.kENot2_0, DL.kENot2_1, DL.kENot2_2, DL.kENot_0, DL.kENot_1, DL.eNot_k, DL.kSl3_0, DL.kSl3_1, DL.kSl2_0, DL.kSl2_1, DL.kSl_0, DL.kSl_1, DL.eSl_k, DL.oNone_k, DL.kOS_0, DL.kOS_1, DL.oSome_k, DL.kKw2_0, DL.kKw2_1, DL.kKw_0, DL.kKw_1, DL.eKw_k, DL.truD_bl, DL.blD_bl, DL.addD_i, DL.subD_i, DL.ltI_i, DL.leI_i, DL.gtI_i, DL.geI_i, DL.negD_i, DL.intD_i, DL.intD_b, DL.max2D_i, DL.min2D_i, DL.gcdD_i, DL.lenD_t, DL.lenD_f, DL.isD_nn, DL.isD_in, DL.isD_tn, DL.isD_bn, DL.isD_sn, DL.isD_ib, DL.isD_tb, DL.isD_bb, DL.isD_sb, DL.isD_nb, DL.isnD_bb, DL.isi_i, DL.isi_b, DL.isi_t, DL.isi_s, DL.isi_n, DL.isTy_ii, DL.isTy_bi, DL.isTy_ib, DL.isTy_bb, DL.isTy_tt, DL.isTy_it, DL.isTy_bt, DL.isTy_ti, DL.isTy_is, DL.isTy_bs, DL.isTy_ss, DL.isTy_st, DL.isTy_nt, DL.isTy_ns, DL.isTy_ni, DL.isTy_ts, DL.isTy_si, DL.isTy_tb, DL.mulD_i, DL.modD_i, DL.fdivD_i, DL.powD_i, DL.tupD_k, DL.lstD_k, DL.fnD_k, DL.endR_rt, DL.endR_nx, DL.endR_ex, List.map_cons, List.map_nil, List.replicate_succ, List.replicate_zero, List.cons_append, List.nil_append, List.getElem?_cons_zero, List.getElem?_cons_succ, List.set_cons_zero, List.set_cons_succ, Nat.reduceSub, Nat.reduceAdd, List.length_cons, List.length_nil, List.any_cons, List.any_nil, Bool.or_false, Bool.or_true, Bool.not_true, Bool.not_false, Nat.reduceLeDiff, Bool.false_or, Bool.true_or, DL.trim_eq, DL.sFor_k, DL.kFor_0, DL.cSrc_k, DL.kSrc_0, DL.cApp_k, DL.kSrcA_0, DL.srcD_t, DL.srcD_f, DL.eqD_ii, DL.neD_ii, DL.ix_t0, DL.ix_t1, b1])]
    rw [seq_nx (ρ' := [.d (.loc b), .d (.loc l), .d (.int c), .un, .un, .un, .un]) (s' := s1) (by simp only [S__law_fraction_3, DL.kSeq_0, DL.kSeq_1, DL.kSeq_2, DL.kSeq_3, DL.kSeq_4, DL.sSeq_k, DL.sSkip_k, DL.sBreak_k, DL.sCont_k, DL.sRetN_k, DL.kExpr_0, DL.kExpr_1, DL.sExpr_k, DL.kRet_0, DL.kRet_1, DL.sRet_k, DL.kIf_0, DL.kIf_1, DL.kIf_2, DL.sIf_k, DL.kAsg2_0, DL.kAsg_0, DL.kAsg_1, DL.sAsg_k, DL.sSet_k, DL.gN_k, DL.gsN_k, DL.kG_0, DL.gsC_k, DL.gT_k, DL.kPut4_0, DL.kPut3_0, DL.kPut3_1, DL.kPut2_0, DL.kPut2_1, DL.kPut_0, DL.kPut_1, DL.sPut_k, DL.sPar_k, DL.kVar_0, DL.eVar_k, DL.eC_k, DL.kUn_0, DL.kUn_1, DL.eUn_k, DL.eIsi_k, DL.kBin2_0, DL.kBin2_1, DL.kBin_0, DL.kBin_1, DL.eBin_k, DL.aNil_k, DL.kCons2_0, DL.kCons2_1, DL.kCons_0, DL.kCons_1, DL.aCons_k, DL.kApp_0, DL.kApp_1, DL.eApp_k, DL.kMt2_0, DL.kMt2_1, DL.kMt1_0, DL.kMt_0, DL.kMt_1, DL.eMt_k, DL.kTru_0, DL.kTru_1, DL.tTru_k, DL.kAnd_0, DL.kAnd_1, DL.kAnd_2, DL.tAndF_k, DL.kOr_0, DL.kOr_1, DL.kOr_2, DL.tOrF_k, DL.kNot_0, DL.kNot_1, DL.kNot_2, DL.tNotF_k, DL.kEIf_0, DL.kEIf_1, DL.kEIf_2, DL.eIf_k, DL.kEAnd2_0, DL.kEAnd2_1, DL.kEAnd2_2, DL.kEAnd_0, DL.kEAnd_1, DL.eAnd_k, DL.kEOr2_0, DL.kEOr2_1, DL.kEOr2_2, DL.kEOr_0, DL.kEOr_1, DL.eOr_k, DL.kENot2_0, DL.kENot2_1, DL.kENot2_2, DL.kENot_0, DL.kENot_1, DL.eNot_k, DL.kSl3_0, DL.kSl3_1, DL.kSl2_0, DL.kSl2_1, DL.kSl_0, DL.kSl_1, DL.eSl_k, DL.oNone_k, DL.kOS_0, DL.kOS_1, DL.oSome_k, DL.kKw2_0, DL.kKw2_1, DL.kKw_0, DL.kKw_1, DL.eKw_k, DL.truD_bl, DL.blD_bl, DL.addD_i, DL.subD_i, DL.ltI_i, DL.leI_i, DL.gtI_i, DL.geI_i, DL.negD_i, DL.intD_i, DL.intD_b, DL.max2D_i, DL.min2D_i, DL.gcdD_i, DL.lenD_t, DL.lenD_f, DL.isD_nn, DL.isD_in, DL.isD_tn, DL.isD_bn, DL.isD_sn, DL.isD_ib, DL.isD_tb, DL.isD_bb, DL.isD_sb, DL.isD_nb, DL.isnD_bb, DL.isi_i, DL.isi_b, DL.isi_t, DL.isi_s, DL.isi_n, DL.isTy_ii, DL.isTy_bi, DL.isTy_ib, DL.isTy_bb, DL.isTy_tt, DL.isTy_it, DL.isTy_bt, DL.isTy_ti, DL.isTy_is, DL.isTy_bs, DL.isTy_ss, DL.isTy_st, DL.isTy_nt, DL.isTy_ns, DL.isTy_ni, DL.isTy_ts, DL.isTy_si, DL.isTy_tb, DL.mulD_i, DL.modD_i, DL.fdivD_i, DL.powD_i, DL.tupD_k, DL.lstD_k, DL.fnD_k, DL.endR_rt, DL.endR_nx, DL.endR_ex, List.map_cons, List.map_nil, List.replicate_succ, List.replicate_zero, List.cons_append, List.nil_append, List.getElem?_cons_zero, List.getElem?_cons_succ, List.set_cons_zero, List.set_cons_succ, Nat.reduceSub, Nat.reduceAdd, List.length_cons, List.length_nil, List.any_cons, List.any_nil, Bool.or_false, Bool.or_true, Bool.not_true, Bool.not_false, Nat.reduceLeDiff, Bool.false_or, Bool.true_or, DL.trim_eq, DL.sFor_k, DL.kFor_0, DL.cSrc_k, DL.kSrc_0, DL.cApp_k, DL.kSrcA_0, DL.srcD_t, DL.srcD_f, DL.eqD_ii, DL.neD_ii, DL.ix_t0, DL.ix_t1, b2, b3])]
  cases tb with
  | true =>
    obtain ⟨r, s3, e3, r0, r1, B3, F3⟩ := wide_ok (n := n + 5) B2
    obtain ⟨q, s4, e4, q0, q1, B4, F4⟩ := wide_ok (n := n + 3) B3
    have lw := lowest_ok s4 (a := r) (b := if q > 1 then q else 1) r0 (by split <;> omega) (k9000 (by split <;> omega) (by split <;> omega))
    refine done (low2 r (if q > 1 then q else 1)) s4 (n + 3) (by omega) (Mo.low r0 (by split <;> omega) (by rw [two64]; omega) (by rw [two64]; split <;> omega)) B4 (F2.trans (F3.trans F4)) ?_
    rw [pre, sSeq_k]
    unfold S__law_fraction_4
    rw [sIf_k, cond]
    simp only [DL.kSeq_0, DL.kSeq_1, DL.kSeq_2, DL.kSeq_3, DL.kSeq_4, DL.sSeq_k, DL.sSkip_k, DL.sBreak_k, DL.sCont_k, DL.sRetN_k, DL.kExpr_0, DL.kExpr_1, DL.sExpr_k, DL.kRet_0, DL.kRet_1, DL.sRet_k, DL.kIf_0, DL.kIf_1, DL.kIf_2, DL.sIf_k, DL.kAsg2_0, DL.kAsg_0, DL.kAsg_1, DL.sAsg_k, DL.sSet_k, DL.gN_k, DL.gsN_k, DL.kG_0, DL.gsC_k, DL.gT_k, DL.kPut4_0, DL.kPut3_0, DL.kPut3_1, DL.kPut2_0, DL.kPut2_1, DL.kPut_0, DL.kPut_1, DL.sPut_k, DL.sPar_k, DL.kVar_0, DL.eVar_k, DL.eC_k, DL.kUn_0, DL.kUn_1, DL.eUn_k, DL.eIsi_k, DL.kBin2_0, DL.kBin2_1, DL.kBin_0, DL.kBin_1, DL.eBin_k, DL.aNil_k, DL.kCons2_0, DL.kCons2_1, DL.kCons_0, DL.kCons_1, DL.aCons_k, DL.kApp_0, DL.kApp_1, DL.eApp_k, DL.kMt2_0, DL.kMt2_1, DL.kMt1_0, DL.kMt_0, DL.kMt_1, DL.eMt_k, DL.kTru_0, DL.kTru_1, DL.tTru_k, DL.kAnd_0, DL.kAnd_1, DL.kAnd_2, DL.tAndF_k, DL.kOr_0, DL.kOr_1, DL.kOr_2, DL.tOrF_k, DL.kNot_0, DL.kNot_1, DL.kNot_2, DL.tNotF_k, DL.kEIf_0, DL.kEIf_1, DL.kEIf_2, DL.eIf_k, DL.kEAnd2_0, DL.kEAnd2_1, DL.kEAnd2_2, DL.kEAnd_0, DL.kEAnd_1, DL.eAnd_k, DL.kEOr2_0, DL.kEOr2_1, DL.kEOr2_2, DL.kEOr_0, DL.kEOr_1, DL.eOr_k, DL.kENot2_0, DL.kENot2_1, DL.kENot2_2, DL.kENot_0, DL.kENot_1, DL.eNot_k, DL.kSl3_0, DL.kSl3_1, DL.kSl2_0, DL.kSl2_1, DL.kSl_0, DL.kSl_1, DL.eSl_k, DL.oNone_k, DL.kOS_0, DL.kOS_1, DL.oSome_k, DL.kKw2_0, DL.kKw2_1, DL.kKw_0, DL.kKw_1, DL.eKw_k, DL.truD_bl, DL.blD_bl, DL.addD_i, DL.subD_i, DL.ltI_i, DL.leI_i, DL.gtI_i, DL.geI_i, DL.negD_i, DL.intD_i, DL.intD_b, DL.max2D_i, DL.min2D_i, DL.gcdD_i, DL.lenD_t, DL.lenD_f, DL.isD_nn, DL.isD_in, DL.isD_tn, DL.isD_bn, DL.isD_sn, DL.isD_ib, DL.isD_tb, DL.isD_bb, DL.isD_sb, DL.isD_nb, DL.isnD_bb, DL.isi_i, DL.isi_b, DL.isi_t, DL.isi_s, DL.isi_n, DL.isTy_ii, DL.isTy_bi, DL.isTy_ib, DL.isTy_bb, DL.isTy_tt, DL.isTy_it, DL.isTy_bt, DL.isTy_ti, DL.isTy_is, DL.isTy_bs, DL.isTy_ss, DL.isTy_st, DL.isTy_nt, DL.isTy_ns, DL.isTy_ni, DL.isTy_ts, DL.isTy_si, DL.isTy_tb, DL.mulD_i, DL.modD_i, DL.fdivD_i, DL.powD_i, DL.tupD_k, DL.lstD_k, DL.fnD_k, DL.endR_rt, DL.endR_nx, DL.endR_ex, List.map_cons, List.map_nil, List.replicate_succ, List.replicate_zero, List.cons_append, List.nil_append, List.getElem?_cons_zero, List.getElem?_cons_succ, List.set_cons_zero, List.set_cons_succ, Nat.reduceSub, Nat.reduceAdd, List.length_cons, List.length_nil, List.any_cons, List.any_nil, Bool.or_false, Bool.or_true, Bool.not_true, Bool.not_false, Nat.reduceLeDiff, Bool.false_or, Bool.true_or, DL.trim_eq, DL.sFor_k, DL.kFor_0, DL.cSrc_k, DL.kSrc_0, DL.cApp_k, DL.kSrcA_0, DL.srcD_t, DL.srcD_f, DL.eqD_ii, DL.neD_ii, DL.ix_t0, DL.ix_t1, e3, e4, lw]
    rfl
  | false =>
    have hl2 := F2.lst hl n1 n2
    obtain ⟨d, hd, s3, e3, B3, F3⟩ := pick_ok (n := n + 6) B2 hl2 n1 n2 (by simpa using hno rfl) (by simp; omega)
    obtain ⟨x, hx, rfl⟩ := List.mem_map.mp hd
    have M := h x hx
    have F03 := F2.trans F3
    have st5 : S__law_fraction_5 [.d (.loc b), .d (.loc l), .d (.int c), .un, .un, .un, .un] s2 = .nx [.d (.loc b), .d (.loc l), .d (.int c), .un, .d (mo x), .un, .un] s3 := by simp only [S__law_fraction_5, DL.kSeq_0, DL.kSeq_1, DL.kSeq_2, DL.kSeq_3, DL.kSeq_4, DL.sSeq_k, DL.sSkip_k, DL.sBreak_k, DL.sCont_k, DL.sRetN_k, DL.kExpr_0, DL.kExpr_1, DL.sExpr_k, DL.kRet_0, DL.kRet_1, DL.sRet_k, DL.kIf_0, DL.kIf_1, DL.kIf_2, DL.sIf_k, DL.kAsg2_0, DL.kAsg_0, DL.kAsg_1, DL.sAsg_k, DL.sSet_k, DL.gN_k, DL.gsN_k, DL.kG_0, DL.gsC_k, DL.gT_k, DL.kPut4_0, DL.kPut3_0, DL.kPut3_1, DL.kPut2_0, DL.kPut2_1, DL.kPut_0, DL.kPut_1, DL.sPut_k, DL.sPar_k, DL.kVar_0, DL.eVar_k, DL.eC_k, DL.kUn_0, DL.kUn_1, DL.eUn_k, DL.eIsi_k, DL.kBin2_0, DL.kBin2_1, DL.kBin_0, DL.kBin_1, DL.eBin_k, DL.aNil_k, DL.kCons2_0, DL.kCons2_1, DL.kCons_0, DL.kCons_1, DL.aCons_k, DL.kApp_0, DL.kApp_1, DL.eApp_k, DL.kMt2_0, DL.kMt2_1, DL.kMt1_0, DL.kMt_0, DL.kMt_1, DL.eMt_k, DL.kTru_0, DL.kTru_1, DL.tTru_k, DL.kAnd_0, DL.kAnd_1, DL.kAnd_2, DL.tAndF_k, DL.kOr_0, DL.kOr_1, DL.kOr_2, DL.tOrF_k, DL.kNot_0, DL.kNot_1, DL.kNot_2, DL.tNotF_k, DL.kEIf_0, DL.kEIf_1, DL.kEIf_2, DL.eIf_k, DL.kEAnd2_0, DL.kEAnd2_1, DL.kEAnd2_2, DL.kEAnd_0, DL.kEAnd_1, DL.eAnd_k, DL.kEOr2_0, DL.kEOr2_1, DL.kEOr2_2, DL.kEOr_0, DL.kEOr_1, DL.eOr_k, DL.kENot2_0, DL.kENot2_1, DL.kENot2_2, DL.kENot_0, DL.kENot_1, DL.eNot_k, DL.kSl3_0, DL.kSl3_1, DL.kSl2_0, DL.kSl2_1, DL.kSl_0, DL.kSl_1, DL.eSl_k, DL.oNone_k, DL.kOS_0, DL.kOS_1, DL.oSome_k, DL.kKw2_0, DL.kKw2_1, DL.kKw_0, DL.kKw_1, DL.eKw_k, DL.truD_bl, DL.blD_bl, DL.addD_i, DL.subD_i, DL.ltI_i, DL.leI_i, DL.gtI_i, DL.geI_i, DL.negD_i, DL.intD_i, DL.intD_b, DL.max2D_i, DL.min2D_i, DL.gcdD_i, DL.lenD_t, DL.lenD_f, DL.isD_nn, DL.isD_in, DL.isD_tn, DL.isD_bn, DL.isD_sn, DL.isD_ib, DL.isD_tb, DL.isD_bb, DL.isD_sb, DL.isD_nb, DL.isnD_bb, DL.isi_i, DL.isi_b, DL.isi_t, DL.isi_s, DL.isi_n, DL.isTy_ii, DL.isTy_bi, DL.isTy_ib, DL.isTy_bb, DL.isTy_tt, DL.isTy_it, DL.isTy_bt, DL.isTy_ti, DL.isTy_is, DL.isTy_bs, DL.isTy_ss, DL.isTy_st, DL.isTy_nt, DL.isTy_ns, DL.isTy_ni, DL.isTy_ts, DL.isTy_si, DL.isTy_tb, DL.mulD_i, DL.modD_i, DL.fdivD_i, DL.powD_i, DL.tupD_k, DL.lstD_k, DL.fnD_k, DL.endR_rt, DL.endR_nx, DL.endR_ex, List.map_cons, List.map_nil, List.replicate_succ, List.replicate_zero, List.cons_append, List.nil_append, List.getElem?_cons_zero, List.getElem?_cons_succ, List.set_cons_zero, List.set_cons_succ, Nat.reduceSub, Nat.reduceAdd, List.length_cons, List.length_nil, List.any_cons, List.any_nil, Bool.or_false, Bool.or_true, Bool.not_true, Bool.not_false, Nat.reduceLeDiff, Bool.false_or, Bool.true_or, DL.trim_eq, DL.sFor_k, DL.kFor_0, DL.cSrc_k, DL.kSrc_0, DL.cApp_k, DL.kSrcA_0, DL.srcD_t, DL.srcD_f, DL.eqD_ii, DL.neD_ii, DL.ix_t0, DL.ix_t1, e3]
    have pre2 : B__law_fraction [.d (.loc b), .d (.loc l), .un, .un, .un, .un, .un] s = sSeq S__law_fraction_6 (sSeq S__law_fraction_7 (sSeq S__law_fraction_8 (sSeq S__law_fraction_9 S__law_fraction_10))) [.d (.loc b), .d (.loc l), .d (.int c), .un, .d (mo x), .un, .un] s3 := by
      rw [pre, seq_nx (ρ' := [.d (.loc b), .d (.loc l), .d (.int c), .un, .un, .un, .un]) (s' := s2) (by unfold S__law_fraction_4; rw [sIf_k, cond]; rfl), seq_nx st5]
    by_cases h5 : c = 5 ∨ 1000000 < (if x.2 > x.1 then x.2 else x.1)
    · refine done x s3 (n + 6) (by omega) M B3 F03 ?_
      have c6 : tOrF (tTru blD (eBin eqD (eVar 2) (eC (.int 5)))) (tTru blD (eBin gtI (eApp max2D (aCons (eBin ixD (eVar 4) (eC (.int 0))) (aCons (eBin ixD (eVar 4) (eC (.int 1))) aNil))) (eBin powD (eC (.int 10)) (eC (.int 6))))) [.d (.loc b), .d (.loc l), .d (.int c), .un, .d (mo x), .un, .un] s3 = .ok true s3 := by
        by_cases h6 : c = 5
        · subst h6; simp only [DL.kSeq_0, DL.kSeq_1, DL.kSeq_2, DL.kSeq_3, DL.kSeq_4, DL.sSeq_k, DL.sSkip_k, DL.sBreak_k, DL.sCont_k, DL.sRetN_k, DL.kExpr_0, DL.kExpr_1, DL.sExpr_k, DL.kRet_0, DL.kRet_1, DL.sRet_k, DL.kIf_0, DL.kIf_1, DL.kIf_2, DL.sIf_k, DL.kAsg2_0, DL.kAsg_0, DL.kAsg_1, DL.sAsg_k, DL.sSet_k, DL.gN_k, DL.gsN_k, DL.kG_0, DL.gsC_k, DL.gT_k, DL.kPut4_0, DL.kPut3_0, DL.kPut3_1, DL.kPut2_0, DL.kPut2_1, DL.kPut_0, DL.kPut_1, DL.sPut_k, DL.sPar_k, DL.kVar_0, DL.eVar_k, DL.eC_k, DL.kUn_0, DL.kUn_1, DL.eUn_k, DL.eIsi_k, DL.kBin2_0, DL.kBin2_1, DL.kBin_0, DL.kBin_1, DL.eBin_k, DL.aNil_k, DL.kCons2_0, DL.kCons2_1, DL.kCons_0, DL.kCons_1, DL.aCons_k, DL.kApp_0, DL.kApp_1, DL.eApp_k, DL.kMt2_0, DL.kMt2_1, DL.kMt1_0, DL.kMt_0, DL.kMt_1, DL.eMt_k, DL.kTru_0, DL.kTru_1, DL.tTru_k, DL.kAnd_0, DL.kAnd_1, DL.kAnd_2, DL.tAndF_k, DL.kOr_0, DL.kOr_1, DL.kOr_2, DL.tOrF_k, DL.kNot_0, DL.kNot_1, DL.kNot_2, DL.tNotF_k, DL.kEIf_0, DL.kEIf_1, DL.kEIf_2, DL.eIf_k, DL.kEAnd2_0, DL.kEAnd2_1, DL.kEAnd2_2, DL.kEAnd_0, DL.kEAnd_1, DL.eAnd_k, DL.kEOr2_0, DL.kEOr2_1, DL.kEOr2_2, DL.kEOr_0, DL.kEOr_1, DL.eOr_k, DL.kENot2_0, DL.kENot2_1, DL.kENot2_2, DL.kENot_0, DL.kENot_1, DL.eNot_k, DL.kSl3_0, DL.kSl3_1, DL.kSl2_0, DL.kSl2_1, DL.kSl_0, DL.kSl_1, DL.eSl_k, DL.oNone_k, DL.kOS_0, DL.kOS_1, DL.oSome_k, DL.kKw2_0, DL.kKw2_1, DL.kKw_0, DL.kKw_1, DL.eKw_k, DL.truD_bl, DL.blD_bl, DL.addD_i, DL.subD_i, DL.ltI_i, DL.leI_i, DL.gtI_i, DL.geI_i, DL.negD_i, DL.intD_i, DL.intD_b, DL.max2D_i, DL.min2D_i, DL.gcdD_i, DL.lenD_t, DL.lenD_f, DL.isD_nn, DL.isD_in, DL.isD_tn, DL.isD_bn, DL.isD_sn, DL.isD_ib, DL.isD_tb, DL.isD_bb, DL.isD_sb, DL.isD_nb, DL.isnD_bb, DL.isi_i, DL.isi_b, DL.isi_t, DL.isi_s, DL.isi_n, DL.isTy_ii, DL.isTy_bi, DL.isTy_ib, DL.isTy_bb, DL.isTy_tt, DL.isTy_it, DL.isTy_bt, DL.isTy_ti, DL.isTy_is, DL.isTy_bs, DL.isTy_ss, DL.isTy_st, DL.isTy_nt, DL.isTy_ns, DL.isTy_ni, DL.isTy_ts, DL.isTy_si, DL.isTy_tb, DL.mulD_i, DL.modD_i, DL.fdivD_i, DL.powD_i, DL.tupD_k, DL.lstD_k, DL.fnD_k, DL.endR_rt, DL.endR_nx, DL.endR_ex, List.map_cons, List.map_nil, List.replicate_succ, List.replicate_zero, List.cons_append, List.nil_append, List.getElem?_cons_zero, List.getElem?_cons_succ, List.set_cons_zero, List.set_cons_succ, Nat.reduceSub, Nat.reduceAdd, List.length_cons, List.length_nil, List.any_cons, List.any_nil, Bool.or_false, Bool.or_true, Bool.not_true, Bool.not_false, Nat.reduceLeDiff, Bool.false_or, Bool.true_or, DL.trim_eq, DL.sFor_k, DL.kFor_0, DL.cSrc_k, DL.kSrc_0, DL.cApp_k, DL.kSrcA_0, DL.srcD_t, DL.srcD_f, DL.eqD_ii, DL.neD_ii, DL.ix_t0, DL.ix_t1, beq_self_eq_true]
        · have b5 : (c == 5) = false := beq_eq_false_iff_ne.mpr h6
          have h7 := h5.resolve_left h6
          simp only [DL.kSeq_0, DL.kSeq_1, DL.kSeq_2, DL.kSeq_3, DL.kSeq_4, DL.sSeq_k, DL.sSkip_k, DL.sBreak_k, DL.sCont_k, DL.sRetN_k, DL.kExpr_0, DL.kExpr_1, DL.sExpr_k, DL.kRet_0, DL.kRet_1, DL.sRet_k, DL.kIf_0, DL.kIf_1, DL.kIf_2, DL.sIf_k, DL.kAsg2_0, DL.kAsg_0, DL.kAsg_1, DL.sAsg_k, DL.sSet_k, DL.gN_k, DL.gsN_k, DL.kG_0, DL.gsC_k, DL.gT_k, DL.kPut4_0, DL.kPut3_0, DL.kPut3_1, DL.kPut2_0, DL.kPut2_1, DL.kPut_0, DL.kPut_1, DL.sPut_k, DL.sPar_k, DL.kVar_0, DL.eVar_k, DL.eC_k, DL.kUn_0, DL.kUn_1, DL.eUn_k, DL.eIsi_k, DL.kBin2_0, DL.kBin2_1, DL.kBin_0, DL.kBin_1, DL.eBin_k, DL.aNil_k, DL.kCons2_0, DL.kCons2_1, DL.kCons_0, DL.kCons_1, DL.aCons_k, DL.kApp_0, DL.kApp_1, DL.eApp_k, DL.kMt2_0, DL.kMt2_1, DL.kMt1_0, DL.kMt_0, DL.kMt_1, DL.eMt_k, DL.kTru_0, DL.kTru_1, DL.tTru_k, DL.kAnd_0, DL.kAnd_1, DL.kAnd_2, DL.tAndF_k, DL.kOr_0, DL.kOr_1, DL.kOr_2, DL.tOrF_k, DL.kNot_0, DL.kNot_1, DL.kNot_2, DL.tNotF_k, DL.kEIf_0, DL.kEIf_1, DL.kEIf_2, DL.eIf_k, DL.kEAnd2_0, DL.kEAnd2_1, DL.kEAnd2_2, DL.kEAnd_0, DL.kEAnd_1, DL.eAnd_k, DL.kEOr2_0, DL.kEOr2_1, DL.kEOr2_2, DL.kEOr_0, DL.kEOr_1, DL.eOr_k, DL.kENot2_0, DL.kENot2_1, DL.kENot2_2, DL.kENot_0, DL.kENot_1, DL.eNot_k, DL.kSl3_0, DL.kSl3_1, DL.kSl2_0, DL.kSl2_1, DL.kSl_0, DL.kSl_1, DL.eSl_k, DL.oNone_k, DL.kOS_0, DL.kOS_1, DL.oSome_k, DL.kKw2_0, DL.kKw2_1, DL.kKw_0, DL.kKw_1, DL.eKw_k, DL.truD_bl, DL.blD_bl, DL.addD_i, DL.subD_i, DL.ltI_i, DL.leI_i, DL.gtI_i, DL.geI_i, DL.negD_i, DL.intD_i, DL.intD_b, DL.max2D_i, DL.min2D_i, DL.gcdD_i, DL.lenD_t, DL.lenD_f, DL.isD_nn, DL.isD_in, DL.isD_tn, DL.isD_bn, DL.isD_sn, DL.isD_ib, DL.isD_tb, DL.isD_bb, DL.isD_sb, DL.isD_nb, DL.isnD_bb, DL.isi_i, DL.isi_b, DL.isi_t, DL.isi_s, DL.isi_n, DL.isTy_ii, DL.isTy_bi, DL.isTy_ib, DL.isTy_bb, DL.isTy_tt, DL.isTy_it, DL.isTy_bt, DL.isTy_ti, DL.isTy_is, DL.isTy_bs, DL.isTy_ss, DL.isTy_st, DL.isTy_nt, DL.isTy_ns, DL.isTy_ni, DL.isTy_ts, DL.isTy_si, DL.isTy_tb, DL.mulD_i, DL.modD_i, DL.fdivD_i, DL.powD_i, DL.tupD_k, DL.lstD_k, DL.fnD_k, DL.endR_rt, DL.endR_nx, DL.endR_ex, List.map_cons, List.map_nil, List.replicate_succ, List.replicate_zero, List.cons_append, List.nil_append, List.getElem?_cons_zero, List.getElem?_cons_succ, List.set_cons_zero, List.set_cons_succ, Nat.reduceSub, Nat.reduceAdd, List.length_cons, List.length_nil, List.any_cons, List.any_nil, Bool.or_false, Bool.or_true, Bool.not_true, Bool.not_false, Nat.reduceLeDiff, Bool.false_or, Bool.true_or, DL.trim_eq, DL.sFor_k, DL.kFor_0, DL.cSrc_k, DL.kSrc_0, DL.cApp_k, DL.kSrcA_0, DL.srcD_t, DL.srcD_f, DL.eqD_ii, DL.neD_ii, DL.ix_t0, DL.ix_t1, b5, p106, h7, decide_true]
      rw [pre2, sSeq_k]
      unfold S__law_fraction_6
      rw [sIf_k, c6]
      simp only [DL.kSeq_0, DL.kSeq_1, DL.kSeq_2, DL.kSeq_3, DL.kSeq_4, DL.sSeq_k, DL.sSkip_k, DL.sBreak_k, DL.sCont_k, DL.sRetN_k, DL.kExpr_0, DL.kExpr_1, DL.sExpr_k, DL.kRet_0, DL.kRet_1, DL.sRet_k, DL.kIf_0, DL.kIf_1, DL.kIf_2, DL.sIf_k, DL.kAsg2_0, DL.kAsg_0, DL.kAsg_1, DL.sAsg_k, DL.sSet_k, DL.gN_k, DL.gsN_k, DL.kG_0, DL.gsC_k, DL.gT_k, DL.kPut4_0, DL.kPut3_0, DL.kPut3_1, DL.kPut2_0, DL.kPut2_1, DL.kPut_0, DL.kPut_1, DL.sPut_k, DL.sPar_k, DL.kVar_0, DL.eVar_k, DL.eC_k, DL.kUn_0, DL.kUn_1, DL.eUn_k, DL.eIsi_k, DL.kBin2_0, DL.kBin2_1, DL.kBin_0, DL.kBin_1, DL.eBin_k, DL.aNil_k, DL.kCons2_0, DL.kCons2_1, DL.kCons_0, DL.kCons_1, DL.aCons_k, DL.kApp_0, DL.kApp_1, DL.eApp_k, DL.kMt2_0, DL.kMt2_1, DL.kMt1_0, DL.kMt_0, DL.kMt_1, DL.eMt_k, DL.kTru_0, DL.kTru_1, DL.tTru_k, DL.kAnd_0, DL.kAnd_1, DL.kAnd_2, DL.tAndF_k, DL.kOr_0, DL.kOr_1, DL.kOr_2, DL.tOrF_k, DL.kNot_0, DL.kNot_1, DL.kNot_2, DL.tNotF_k, DL.kEIf_0, DL.kEIf_1, DL.kEIf_2, DL.eIf_k, DL.kEAnd2_0, DL.kEAnd2_1, DL.kEAnd2_2, DL.kEAnd_0, DL.kEAnd_1, DL.eAnd_k, DL.kEOr2_0, DL.kEOr2_1, DL.kEOr2_2, DL.kEOr_0, DL.kEOr_1, DL.eOr_k, DL.kENot2_0, DL.kENot2_1, DL.kENot2_2, DL.kENot_0, DL.kENot_1, DL.eNot_k, DL.kSl3_0, DL.kSl3_1, DL.kSl2_0, DL.kSl2_1, DL.kSl_0, DL.kSl_1, DL.eSl_k, DL.oNone_k, DL.kOS_0, DL.kOS_1, DL.oSome_k, DL.kKw2_0, DL.kKw2_1, DL.kKw_0, DL.kKw_1, DL.eKw_k, DL.truD_bl, DL.blD_bl, DL.addD_i, DL.subD_i, DL.ltI_i, DL.leI_i, DL.gtI_i, DL.geI_i, DL.negD_i, DL.intD_i, DL.intD_b, DL.max2D_i, DL.min2D_i, DL.gcdD_i, DL.lenD_t, DL.lenD_f, DL.isD_nn, DL.isD_in, DL.isD_tn, DL.isD_bn, DL.isD_sn, DL.isD_ib, DL.isD_tb, DL.isD_bb, DL.isD_sb, DL.isD_nb, DL.isnD_bb, DL.isi_i, DL.isi_b, DL.isi_t, DL.isi_s, DL.isi_n, DL.isTy_ii, DL.isTy_bi, DL.isTy_ib, DL.isTy_bb, DL.isTy_tt, DL.isTy_it, DL.isTy_bt, DL.isTy_ti, DL.isTy_is, DL.isTy_bs, DL.isTy_ss, DL.isTy_st, DL.isTy_nt, DL.isTy_ns, DL.isTy_ni, DL.isTy_ts, DL.isTy_si, DL.isTy_tb, DL.mulD_i, DL.modD_i, DL.fdivD_i, DL.powD_i, DL.tupD_k, DL.lstD_k, DL.fnD_k, DL.endR_rt, DL.endR_nx, DL.endR_ex, List.map_cons, List.map_nil, List.replicate_succ, List.replicate_zero, List.cons_append, List.nil_append, List.getElem?_cons_zero, List.getElem?_cons_succ, List.set_cons_zero, List.set_cons_succ, Nat.reduceSub, Nat.reduceAdd, List.length_cons, List.length_nil, List.any_cons, List.any_nil, Bool.or_false, Bool.or_true, Bool.not_true, Bool.not_false, Nat.reduceLeDiff, Bool.false_or, Bool.true_or, DL.trim_eq, DL.sFor_k, DL.kFor_0, DL.cSrc_k, DL.kSrc_0, DL.cApp_k, DL.kSrcA_0, DL.srcD_t, DL.srcD_f, DL.eqD_ii, DL.neD_ii, DL.ix_t0, DL.ix_t1]
    · have b5 : (c == 5) = false := beq_eq_false_iff_ne.mpr fun e => h5 (.inl e)
      have h7 : ¬ 1000000 < (if x.2 > x.1 then x.2 else x.1) := fun e => h5 (.inr e)
      have x1 : x.1 ≤ 1000000 ∧ x.2 ≤ 1000000 := by
        by_cases q : x.2 > x.1
        · rw [if_pos q] at h7; omega
        · rw [if_neg q] at h7; omega
      obtain ⟨r, s4, e4, r0, r1, B4, F4⟩ := draw_ok (n := n + 5) (k := 100000) B3 (by decide) (k9000 (by decide) (by decide))
      have pre3 : B__law_fraction [.d (.loc b), .d (.loc l), .un, .un, .un, .un, .un] s = sSeq S__law_fraction_9 S__law_fraction_10 [.d (.loc b), .d (.loc l), .d (.int c), .un, .d (mo x), .d (.int (1 + r)), .d (.int 1)] s4 := by
        rw [pre2, seq_nx (ρ' := [.d (.loc b), .d (.loc l), .d (.int c), .un, .d (mo x), .un, .un]) (s' := s3) (by simp only [S__law_fraction_6, DL.kSeq_0, DL.kSeq_1, DL.kSeq_2, DL.kSeq_3, DL.kSeq_4, DL.sSeq_k, DL.sSkip_k, DL.sBreak_k, DL.sCont_k, DL.sRetN_k, DL.kExpr_0, DL.kExpr_1, DL.sExpr_k, DL.kRet_0, DL.kRet_1, DL.sRet_k, DL.kIf_0, DL.kIf_1, DL.kIf_2, DL.sIf_k, DL.kAsg2_0, DL.kAsg_0, DL.kAsg_1, DL.sAsg_k, DL.sSet_k, DL.gN_k, DL.gsN_k, DL.kG_0, DL.gsC_k, DL.gT_k, DL.kPut4_0, DL.kPut3_0, DL.kPut3_1, DL.kPut2_0, DL.kPut2_1, DL.kPut_0, DL.kPut_1, DL.sPut_k, DL.sPar_k, DL.kVar_0, DL.eVar_k, DL.eC_k, DL.kUn_0, DL.kUn_1, DL.eUn_k, DL.eIsi_k, DL.kBin2_0, DL.kBin2_1, DL.kBin_0, DL.kBin_1, DL.eBin_k, DL.aNil_k, DL.kCons2_0, DL.kCons2_1, DL.kCons_0, DL.kCons_1, DL.aCons_k, DL.kApp_0, DL.kApp_1, DL.eApp_k, DL.kMt2_0, DL.kMt2_1, DL.kMt1_0, DL.kMt_0, DL.kMt_1, DL.eMt_k, DL.kTru_0, DL.kTru_1, DL.tTru_k, DL.kAnd_0, DL.kAnd_1, DL.kAnd_2, DL.tAndF_k, DL.kOr_0, DL.kOr_1, DL.kOr_2, DL.tOrF_k, DL.kNot_0, DL.kNot_1, DL.kNot_2, DL.tNotF_k, DL.kEIf_0, DL.kEIf_1, DL.kEIf_2, DL.eIf_k, DL.kEAnd2_0, DL.kEAnd2_1, DL.kEAnd2_2, DL.kEAnd_0, DL.kEAnd_1, DL.eAnd_k, DL.kEOr2_0, DL.kEOr2_1, DL.kEOr2_2, DL.kEOr_0, DL.kEOr_1, DL.eOr_k, DL.kENot2_0, DL.kENot2_1, DL.kENot2_2, DL.kENot_0, DL.kENot_1, DL.eNot_k, DL.kSl3_0, DL.kSl3_1, DL.kSl2_0, DL.kSl2_1, DL.kSl_0, DL.kSl_1, DL.eSl_k, DL.oNone_k, DL.kOS_0, DL.kOS_1, DL.oSome_k, DL.kKw2_0, DL.kKw2_1, DL.kKw_0, DL.kKw_1, DL.eKw_k, DL.truD_bl, DL.blD_bl, DL.addD_i, DL.subD_i, DL.ltI_i, DL.leI_i, DL.gtI_i, DL.geI_i, DL.negD_i, DL.intD_i, DL.intD_b, DL.max2D_i, DL.min2D_i, DL.gcdD_i, DL.lenD_t, DL.lenD_f, DL.isD_nn, DL.isD_in, DL.isD_tn, DL.isD_bn, DL.isD_sn, DL.isD_ib, DL.isD_tb, DL.isD_bb, DL.isD_sb, DL.isD_nb, DL.isnD_bb, DL.isi_i, DL.isi_b, DL.isi_t, DL.isi_s, DL.isi_n, DL.isTy_ii, DL.isTy_bi, DL.isTy_ib, DL.isTy_bb, DL.isTy_tt, DL.isTy_it, DL.isTy_bt, DL.isTy_ti, DL.isTy_is, DL.isTy_bs, DL.isTy_ss, DL.isTy_st, DL.isTy_nt, DL.isTy_ns, DL.isTy_ni, DL.isTy_ts, DL.isTy_si, DL.isTy_tb, DL.mulD_i, DL.modD_i, DL.fdivD_i, DL.powD_i, DL.tupD_k, DL.lstD_k, DL.fnD_k, DL.endR_rt, DL.endR_nx, DL.endR_ex, List.map_cons, List.map_nil, List.replicate_succ, List.replicate_zero, List.cons_append, List.nil_append, List.getElem?_cons_zero, List.getElem?_cons_succ, List.set_cons_zero, List.set_cons_succ, Nat.reduceSub, Nat.reduceAdd, List.length_cons, List.length_nil, List.any_cons, List.any_nil, Bool.or_false, Bool.or_true, Bool.not_true, Bool.not_false, Nat.reduceLeDiff, Bool.false_or, Bool.true_or, DL.trim_eq, DL.sFor_k, DL.kFor_0, DL.cSrc_k, DL.kSrc_0, DL.cApp_k, DL.kSrcA_0, DL.srcD_t, DL.srcD_f, DL.eqD_ii, DL.neD_ii, DL.ix_t0, DL.ix_t1, b5, p106, h7, decide_false]),
          seq_nx (ρ' := [.d (.loc b), .d (.loc l), .d (.int c), .un, .d (mo x), .d (.int (1 + r)), .un]) (s' := s4) (by simp only [S__law_fraction_7, DL.kSeq_0, DL.kSeq_1, DL.kSeq_2, DL.kSeq_3, DL.kSeq_4, DL.sSeq_k, DL.sSkip_k, DL.sBreak_k, DL.sCont_k, DL.sRetN_k, DL.kExpr_0, DL.kExpr_1, DL.sExpr_k, DL.kRet_0, DL.kRet_1, DL.sRet_k, DL.kIf_0, DL.kIf_1, DL.kIf_2, DL.sIf_k, DL.kAsg2_0, DL.kAsg_0, DL.kAsg_1, DL.sAsg_k, DL.sSet_k, DL.gN_k, DL.gsN_k, DL.kG_0, DL.gsC_k, DL.gT_k, DL.kPut4_0, DL.kPut3_0, DL.kPut3_1, DL.kPut2_0, DL.kPut2_1, DL.kPut_0, DL.kPut_1, DL.sPut_k, DL.sPar_k, DL.kVar_0, DL.eVar_k, DL.eC_k, DL.kUn_0, DL.kUn_1, DL.eUn_k, DL.eIsi_k, DL.kBin2_0, DL.kBin2_1, DL.kBin_0, DL.kBin_1, DL.eBin_k, DL.aNil_k, DL.kCons2_0, DL.kCons2_1, DL.kCons_0, DL.kCons_1, DL.aCons_k, DL.kApp_0, DL.kApp_1, DL.eApp_k, DL.kMt2_0, DL.kMt2_1, DL.kMt1_0, DL.kMt_0, DL.kMt_1, DL.eMt_k, DL.kTru_0, DL.kTru_1, DL.tTru_k, DL.kAnd_0, DL.kAnd_1, DL.kAnd_2, DL.tAndF_k, DL.kOr_0, DL.kOr_1, DL.kOr_2, DL.tOrF_k, DL.kNot_0, DL.kNot_1, DL.kNot_2, DL.tNotF_k, DL.kEIf_0, DL.kEIf_1, DL.kEIf_2, DL.eIf_k, DL.kEAnd2_0, DL.kEAnd2_1, DL.kEAnd2_2, DL.kEAnd_0, DL.kEAnd_1, DL.eAnd_k, DL.kEOr2_0, DL.kEOr2_1, DL.kEOr2_2, DL.kEOr_0, DL.kEOr_1, DL.eOr_k, DL.kENot2_0, DL.kENot2_1, DL.kENot2_2, DL.kENot_0, DL.kENot_1, DL.eNot_k, DL.kSl3_0, DL.kSl3_1, DL.kSl2_0, DL.kSl2_1, DL.kSl_0, DL.kSl_1, DL.eSl_k, DL.oNone_k, DL.kOS_0, DL.kOS_1, DL.oSome_k, DL.kKw2_0, DL.kKw2_1, DL.kKw_0, DL.kKw_1, DL.eKw_k, DL.truD_bl, DL.blD_bl, DL.addD_i, DL.subD_i, DL.ltI_i, DL.leI_i, DL.gtI_i, DL.geI_i, DL.negD_i, DL.intD_i, DL.intD_b, DL.max2D_i, DL.min2D_i, DL.gcdD_i, DL.lenD_t, DL.lenD_f, DL.isD_nn, DL.isD_in, DL.isD_tn, DL.isD_bn, DL.isD_sn, DL.isD_ib, DL.isD_tb, DL.isD_bb, DL.isD_sb, DL.isD_nb, DL.isnD_bb, DL.isi_i, DL.isi_b, DL.isi_t, DL.isi_s, DL.isi_n, DL.isTy_ii, DL.isTy_bi, DL.isTy_ib, DL.isTy_bb, DL.isTy_tt, DL.isTy_it, DL.isTy_bt, DL.isTy_ti, DL.isTy_is, DL.isTy_bs, DL.isTy_ss, DL.isTy_st, DL.isTy_nt, DL.isTy_ns, DL.isTy_ni, DL.isTy_ts, DL.isTy_si, DL.isTy_tb, DL.mulD_i, DL.modD_i, DL.fdivD_i, DL.powD_i, DL.tupD_k, DL.lstD_k, DL.fnD_k, DL.endR_rt, DL.endR_nx, DL.endR_ex, List.map_cons, List.map_nil, List.replicate_succ, List.replicate_zero, List.cons_append, List.nil_append, List.getElem?_cons_zero, List.getElem?_cons_succ, List.set_cons_zero, List.set_cons_succ, Nat.reduceSub, Nat.reduceAdd, List.length_cons, List.length_nil, List.any_cons, List.any_nil, Bool.or_false, Bool.or_true, Bool.not_true, Bool.not_false, Nat.reduceLeDiff, Bool.false_or, Bool.true_or, DL.trim_eq, DL.sFor_k, DL.kFor_0, DL.cSrc_k, DL.kSrc_0, DL.cApp_k, DL.kSrcA_0, DL.srcD_t, DL.srcD_f, DL.eqD_ii, DL.neD_ii, DL.ix_t0, DL.ix_t1, p105, e4]),
          seq_nx (ρ' := [.d (.loc b), .d (.loc l), .d (.int c), .un, .d (mo x), .d (.int (1 + r)), .d (.int 1)]) (s' := s4) (by simp only [S__law_fraction_8, DL.kSeq_0, DL.kSeq_1, DL.kSeq_2, DL.kSeq_3, DL.kSeq_4, DL.sSeq_k, DL.sSkip_k, DL.sBreak_k, DL.sCont_k, DL.sRetN_k, DL.kExpr_0, DL.kExpr_1, DL.sExpr_k, DL.kRet_0, DL.kRet_1, DL.sRet_k, DL.kIf_0, DL.kIf_1, DL.kIf_2, DL.sIf_k, DL.kAsg2_0, DL.kAsg_0, DL.kAsg_1, DL.sAsg_k, DL.sSet_k, DL.gN_k, DL.gsN_k, DL.kG_0, DL.gsC_k, DL.gT_k, DL.kPut4_0, DL.kPut3_0, DL.kPut3_1, DL.kPut2_0, DL.kPut2_1, DL.kPut_0, DL.kPut_1, DL.sPut_k, DL.sPar_k, DL.kVar_0, DL.eVar_k, DL.eC_k, DL.kUn_0, DL.kUn_1, DL.eUn_k, DL.eIsi_k, DL.kBin2_0, DL.kBin2_1, DL.kBin_0, DL.kBin_1, DL.eBin_k, DL.aNil_k, DL.kCons2_0, DL.kCons2_1, DL.kCons_0, DL.kCons_1, DL.aCons_k, DL.kApp_0, DL.kApp_1, DL.eApp_k, DL.kMt2_0, DL.kMt2_1, DL.kMt1_0, DL.kMt_0, DL.kMt_1, DL.eMt_k, DL.kTru_0, DL.kTru_1, DL.tTru_k, DL.kAnd_0, DL.kAnd_1, DL.kAnd_2, DL.tAndF_k, DL.kOr_0, DL.kOr_1, DL.kOr_2, DL.tOrF_k, DL.kNot_0, DL.kNot_1, DL.kNot_2, DL.tNotF_k, DL.kEIf_0, DL.kEIf_1, DL.kEIf_2, DL.eIf_k, DL.kEAnd2_0, DL.kEAnd2_1, DL.kEAnd2_2, DL.kEAnd_0, DL.kEAnd_1, DL.eAnd_k, DL.kEOr2_0, DL.kEOr2_1, DL.kEOr2_2, DL.kEOr_0, DL.kEOr_1, DL.eOr_k, DL.kENot2_0, DL.kENot2_1, DL.kENot2_2, DL.kENot_0, DL.kENot_1, DL.eNot_k, DL.kSl3_0, DL.kSl3_1, DL.kSl2_0, DL.kSl2_1, DL.kSl_0, DL.kSl_1, DL.eSl_k, DL.oNone_k, DL.kOS_0, DL.kOS_1, DL.oSome_k, DL.kKw2_0, DL.kKw2_1, DL.kKw_0, DL.kKw_1, DL.eKw_k, DL.truD_bl, DL.blD_bl, DL.addD_i, DL.subD_i, DL.ltI_i, DL.leI_i, DL.gtI_i, DL.geI_i, DL.negD_i, DL.intD_i, DL.intD_b, DL.max2D_i, DL.min2D_i, DL.gcdD_i, DL.lenD_t, DL.lenD_f, DL.isD_nn, DL.isD_in, DL.isD_tn, DL.isD_bn, DL.isD_sn, DL.isD_ib, DL.isD_tb, DL.isD_bb, DL.isD_sb, DL.isD_nb, DL.isnD_bb, DL.isi_i, DL.isi_b, DL.isi_t, DL.isi_s, DL.isi_n, DL.isTy_ii, DL.isTy_bi, DL.isTy_ib, DL.isTy_bb, DL.isTy_tt, DL.isTy_it, DL.isTy_bt, DL.isTy_ti, DL.isTy_is, DL.isTy_bs, DL.isTy_ss, DL.isTy_st, DL.isTy_nt, DL.isTy_ns, DL.isTy_ni, DL.isTy_ts, DL.isTy_si, DL.isTy_tb, DL.mulD_i, DL.modD_i, DL.fdivD_i, DL.powD_i, DL.tupD_k, DL.lstD_k, DL.fnD_k, DL.endR_rt, DL.endR_nx, DL.endR_ex, List.map_cons, List.map_nil, List.replicate_succ, List.replicate_zero, List.cons_append, List.nil_append, List.getElem?_cons_zero, List.getElem?_cons_succ, List.set_cons_zero, List.set_cons_succ, Nat.reduceSub, Nat.reduceAdd, List.length_cons, List.length_nil, List.any_cons, List.any_nil, Bool.or_false, Bool.or_true, Bool.not_true, Bool.not_false, Nat.reduceLeDiff, Bool.false_or, Bool.true_or, DL.trim_eq, DL.sFor_k, DL.kFor_0, DL.cSrc_k, DL.kSrc_0, DL.cApp_k, DL.kSrcA_0, DL.srcD_t, DL.srcD_f, DL.eqD_ii, DL.neD_ii, DL.ix_t0, DL.ix_t1])]
      have m1 : mulOk x.1 (1 + r) = true := mulOk_b (m := 20) (n := 20) (by have := M.t; omega) (by omega) (by decide) (by decide)
      have m2 : mulOk x.2 (1 + r) = true := mulOk_b (m := 20) (n := 20) (by have := M.b; omega) (by omega) (by decide) (by decide)
      have bb : 1 ≤ x.2 * (1 + r) := Int.mul_pos (by have := M.b; omega) (by omega)
      have z1 : (x.2 * (1 + r)).natAbs < 2 ^ 40 := natAbs_mul_lt (m := 20) (n := 20) (by have := M.b; omega) (by omega)
      have z2 : (x.1 * (1 + r)).natAbs < 2 ^ 40 := natAbs_mul_lt (m := 20) (n := 20) (by have := M.t; omega) (by omega)
      have n3 : 0 ≤ x.1 * (1 + r) := Int.mul_nonneg M.t (by omega)
      -- the change
      obtain ⟨ch, s5, e5, hc, B5, F5⟩ : ∃ (ch : Int) (s5 : Sto), S__law_fraction_9 [.d (.loc b), .d (.loc l), .d (.int c), .un, .d (mo x), .d (.int (1 + r)), .d (.int 1)] s4 = .nx [.d (.loc b), .d (.loc l), .d (.int c), .un, .d (mo x), .d (.int (1 + r)), .d (.int ch)] s5 ∧ (ch = 1 ∨ (ch = -1 ∧ 0 < x.1)) ∧ Box s5 b g (n + 4) ∧ Fr b g s4 s5 := by
        by_cases p : 0 < x.1
        · obtain ⟨q, s5, e5, q0, q1, B5, F5⟩ := draw_ok (n := n + 4) (k := 2) B4 (by decide) (k9000 (by decide) (by decide))
          by_cases hq : q = 1
          · subst hq
            exact ⟨-1, s5, by simp only [S__law_fraction_9, DL.kSeq_0, DL.kSeq_1, DL.kSeq_2, DL.kSeq_3, DL.kSeq_4, DL.sSeq_k, DL.sSkip_k, DL.sBreak_k, DL.sCont_k, DL.sRetN_k, DL.kExpr_0, DL.kExpr_1, DL.sExpr_k, DL.kRet_0, DL.kRet_1, DL.sRet_k, DL.kIf_0, DL.kIf_1, DL.kIf_2, DL.sIf_k, DL.kAsg2_0, DL.kAsg_0, DL.kAsg_1, DL.sAsg_k, DL.sSet_k, DL.gN_k, DL.gsN_k, DL.kG_0, DL.gsC_k, DL.gT_k, DL.kPut4_0, DL.kPut3_0, DL.kPut3_1, DL.kPut2_0, DL.kPut2_1, DL.kPut_0, DL.kPut_1, DL.sPut_k, DL.sPar_k, DL.kVar_0, DL.eVar_k, DL.eC_k, DL.kUn_0, DL.kUn_1, DL.eUn_k, DL.eIsi_k, DL.kBin2_0, DL.kBin2_1, DL.kBin_0, DL.kBin_1, DL.eBin_k, DL.aNil_k, DL.kCons2_0, DL.kCons2_1, DL.kCons_0, DL.kCons_1, DL.aCons_k, DL.kApp_0, DL.kApp_1, DL.eApp_k, DL.kMt2_0, DL.kMt2_1, DL.kMt1_0, DL.kMt_0, DL.kMt_1, DL.eMt_k, DL.kTru_0, DL.kTru_1, DL.tTru_k, DL.kAnd_0, DL.kAnd_1, DL.kAnd_2, DL.tAndF_k, DL.kOr_0, DL.kOr_1, DL.kOr_2, DL.tOrF_k, DL.kNot_0, DL.kNot_1, DL.kNot_2, DL.tNotF_k, DL.kEIf_0, DL.kEIf_1, DL.kEIf_2, DL.eIf_k, DL.kEAnd2_0, DL.kEAnd2_1, DL.kEAnd2_2, DL.kEAnd_0, DL.kEAnd_1, DL.eAnd_k, DL.kEOr2_0, DL.kEOr2_1, DL.kEOr2_2, DL.kEOr_0, DL.kEOr_1, DL.eOr_k, DL.kENot2_0, DL.kENot2_1, DL.kENot2_2, DL.kENot_0, DL.kENot_1, DL.eNot_k, DL.kSl3_0, DL.kSl3_1, DL.kSl2_0, DL.kSl2_1, DL.kSl_0, DL.kSl_1, DL.eSl_k, DL.oNone_k, DL.kOS_0, DL.kOS_1, DL.oSome_k, DL.kKw2_0, DL.kKw2_1, DL.kKw_0, DL.kKw_1, DL.eKw_k, DL.truD_bl, DL.blD_bl, DL.addD_i, DL.subD_i, DL.ltI_i, DL.leI_i, DL.gtI_i, DL.geI_i, DL.negD_i, DL.intD_i, DL.intD_b, DL.max2D_i, DL.min2D_i, DL.gcdD_i, DL.lenD_t, DL.lenD_f, DL.isD_nn, DL.isD_in, DL.isD_tn, DL.isD_bn, DL.isD_sn, DL.isD_ib, DL.isD_tb, DL.isD_bb, DL.isD_sb, DL.isD_nb, DL.isnD_bb, DL.isi_i, DL.isi_b, DL.isi_t, DL.isi_s, DL.isi_n, DL.isTy_ii, DL.isTy_bi, DL.isTy_ib, DL.isTy_bb, DL.isTy_tt, DL.isTy_it, DL.isTy_bt, DL.isTy_ti, DL.isTy_is, DL.isTy_bs, DL.isTy_ss, DL.isTy_st, DL.isTy_nt, DL.isTy_ns, DL.isTy_ni, DL.isTy_ts, DL.isTy_si, DL.isTy_tb, DL.mulD_i, DL.modD_i, DL.fdivD_i, DL.powD_i, DL.tupD_k, DL.lstD_k, DL.fnD_k, DL.endR_rt, DL.endR_nx, DL.endR_ex, List.map_cons, List.map_nil, List.replicate_succ, List.replicate_zero, List.cons_append, List.nil_append, List.getElem?_cons_zero, List.getElem?_cons_succ, List.set_cons_zero, List.set_cons_succ, Nat.reduceSub, Nat.reduceAdd, List.length_cons, List.length_nil, List.any_cons, List.any_nil, Bool.or_false, Bool.or_true, Bool.not_true, Bool.not_false, Nat.reduceLeDiff, Bool.false_or, Bool.true_or, DL.trim_eq, DL.sFor_k, DL.kFor_0, DL.cSrc_k, DL.kSrc_0, DL.cApp_k, DL.kSrcA_0, DL.srcD_t, DL.srcD_f, DL.eqD_ii, DL.neD_ii, DL.ix_t0, DL.ix_t1, p, decide_true, e5, beq_self_eq_true], .inr ⟨rfl, p⟩, B5, F5⟩
          · have bq : (q == 1) = false := beq_eq_false_iff_ne.mpr hq
            exact ⟨1, s5, by simp only [S__law_fraction_9, DL.kSeq_0, DL.kSeq_1, DL.kSeq_2, DL.kSeq_3, DL.kSeq_4, DL.sSeq_k, DL.sSkip_k, DL.sBreak_k, DL.sCont_k, DL.sRetN_k, DL.kExpr_0, DL.kExpr_1, DL.sExpr_k, DL.kRet_0, DL.kRet_1, DL.sRet_k, DL.kIf_0, DL.kIf_1, DL.kIf_2, DL.sIf_k, DL.kAsg2_0, DL.kAsg_0, DL.kAsg_1, DL.sAsg_k, DL.sSet_k, DL.gN_k, DL.gsN_k, DL.kG_0, DL.gsC_k, DL.gT_k, DL.kPut4_0, DL.kPut3_0, DL.kPut3_1, DL.kPut2_0, DL.kPut2_1, DL.kPut_0, DL.kPut_1, DL.sPut_k, DL.sPar_k, DL.kVar_0, DL.eVar_k, DL.eC_k, DL.kUn_0, DL.kUn_1, DL.eUn_k, DL.eIsi_k, DL.kBin2_0, DL.kBin2_1, DL.kBin_0, DL.kBin_1, DL.eBin_k, DL.aNil_k, DL.kCons2_0, DL.kCons2_1, DL.kCons_0, DL.kCons_1, DL.aCons_k, DL.kApp_0, DL.kApp_1, DL.eApp_k, DL.kMt2_0, DL.kMt2_1, DL.kMt1_0, DL.kMt_0, DL.kMt_1, DL.eMt_k, DL.kTru_0, DL.kTru_1, DL.tTru_k, DL.kAnd_0, DL.kAnd_1, DL.kAnd_2, DL.tAndF_k, DL.kOr_0, DL.kOr_1, DL.kOr_2, DL.tOrF_k, DL.kNot_0, DL.kNot_1, DL.kNot_2, DL.tNotF_k, DL.kEIf_0, DL.kEIf_1, DL.kEIf_2, DL.eIf_k, DL.kEAnd2_0, DL.kEAnd2_1, DL.kEAnd2_2, DL.kEAnd_0, DL.kEAnd_1, DL.eAnd_k, DL.kEOr2_0, DL.kEOr2_1, DL.kEOr2_2, DL.kEOr_0, DL.kEOr_1, DL.eOr_k, DL.kENot2_0, DL.kENot2_1, DL.kENot2_2, DL.kENot_0, DL.kENot_1, DL.eNot_k, DL.kSl3_0, DL.kSl3_1, DL.kSl2_0, DL.kSl2_1, DL.kSl_0, DL.kSl_1, DL.eSl_k, DL.oNone_k, DL.kOS_0, DL.kOS_1, DL.oSome_k, DL.kKw2_0, DL.kKw2_1, DL.kKw_0, DL.kKw_1, DL.eKw_k, DL.truD_bl, DL.blD_bl, DL.addD_i, DL.subD_i, DL.ltI_i, DL.leI_i, DL.gtI_i, DL.geI_i, DL.negD_i, DL.intD_i, DL.intD_b, DL.max2D_i, DL.min2D_i, DL.gcdD_i, DL.lenD_t, DL.lenD_f, DL.isD_nn, DL.isD_in, DL.isD_tn, DL.isD_bn, DL.isD_sn, DL.isD_ib, DL.isD_tb, DL.isD_bb, DL.isD_sb, DL.isD_nb, DL.isnD_bb, DL.isi_i, DL.isi_b, DL.isi_t, DL.isi_s, DL.isi_n, DL.isTy_ii, DL.isTy_bi, DL.isTy_ib, DL.isTy_bb, DL.isTy_tt, DL.isTy_it, DL.isTy_bt, DL.isTy_ti, DL.isTy_is, DL.isTy_bs, DL.isTy_ss, DL.isTy_st, DL.isTy_nt, DL.isTy_ns, DL.isTy_ni, DL.isTy_ts, DL.isTy_si, DL.isTy_tb, DL.mulD_i, DL.modD_i, DL.fdivD_i, DL.powD_i, DL.tupD_k, DL.lstD_k, DL.fnD_k, DL.endR_rt, DL.endR_nx, DL.endR_ex, List.map_cons, List.map_nil, List.replicate_succ, List.replicate_zero, List.cons_append, List.nil_append, List.getElem?_cons_zero, List.getElem?_cons_succ, List.set_cons_zero, List.set_cons_succ, Nat.reduceSub, Nat.reduceAdd, List.length_cons, List.length_nil, List.any_cons, List.any_nil, Bool.or_false, Bool.or_true, Bool.not_true, Bool.not_false, Nat.reduceLeDiff, Bool.false_or, Bool.true_or, DL.trim_eq, DL.sFor_k, DL.kFor_0, DL.cSrc_k, DL.kSrc_0, DL.cApp_k, DL.kSrcA_0, DL.srcD_t, DL.srcD_f, DL.eqD_ii, DL.neD_ii, DL.ix_t0, DL.ix_t1, p, decide_true, e5, bq], .inl rfl, B5, F5⟩
        · exact ⟨1, s4, by simp only [S__law_fraction_9, DL.kSeq_0, DL.kSeq_1, DL.kSeq_2, DL.kSeq_3, DL.kSeq_4, DL.sSeq_k, DL.sSkip_k, DL.sBreak_k, DL.sCont_k, DL.sRetN_k, DL.kExpr_0, DL.kExpr_1, DL.sExpr_k, DL.kRet_0, DL.kRet_1, DL.sRet_k, DL.kIf_0, DL.kIf_1, DL.kIf_2, DL.sIf_k, DL.kAsg2_0, DL.kAsg_0, DL.kAsg_1, DL.sAsg_k, DL.sSet_k, DL.gN_k, DL.gsN_k, DL.kG_0, DL.gsC_k, DL.gT_k, DL.kPut4_0, DL.kPut3_0, DL.kPut3_1, DL.kPut2_0, DL.kPut2_1, DL.kPut_0, DL.kPut_1, DL.sPut_k, DL.sPar_k, DL.kVar_0, DL.eVar_k, DL.eC_k, DL.kUn_0, DL.kUn_1, DL.eUn_k, DL.eIsi_k, DL.kBin2_0, DL.kBin2_1, DL.kBin_0, DL.kBin_1, DL.eBin_k, DL.aNil_k, DL.kCons2_0, DL.kCons2_1, DL.kCons_0, DL.kCons_1, DL.aCons_k, DL.kApp_0, DL.kApp_1, DL.eApp_k, DL.kMt2_0, DL.kMt2_1, DL.kMt1_0, DL.kMt_0, DL.kMt_1, DL.eMt_k, DL.kTru_0, DL.kTru_1, DL.tTru_k, DL.kAnd_0, DL.kAnd_1, DL.kAnd_2, DL.tAndF_k, DL.kOr_0, DL.kOr_1, DL.kOr_2, DL.tOrF_k, DL.kNot_0, DL.kNot_1, DL.kNot_2, DL.tNotF_k, DL.kEIf_0, DL.kEIf_1, DL.kEIf_2, DL.eIf_k, DL.kEAnd2_0, DL.kEAnd2_1, DL.kEAnd2_2, DL.kEAnd_0, DL.kEAnd_1, DL.eAnd_k, DL.kEOr2_0, DL.kEOr2_1, DL.kEOr2_2, DL.kEOr_0, DL.kEOr_1, DL.eOr_k, DL.kENot2_0, DL.kENot2_1, DL.kENot2_2, DL.kENot_0, DL.kENot_1, DL.eNot_k, DL.kSl3_0, DL.kSl3_1, DL.kSl2_0, DL.kSl2_1, DL.kSl_0, DL.kSl_1, DL.eSl_k, DL.oNone_k, DL.kOS_0, DL.kOS_1, DL.oSome_k, DL.kKw2_0, DL.kKw2_1, DL.kKw_0, DL.kKw_1, DL.eKw_k, DL.truD_bl, DL.blD_bl, DL.addD_i, DL.subD_i, DL.ltI_i, DL.leI_i, DL.gtI_i, DL.geI_i, DL.negD_i, DL.intD_i, DL.intD_b, DL.max2D_i, DL.min2D_i, DL.gcdD_i, DL.lenD_t, DL.lenD_f, DL.isD_nn, DL.isD_in, DL.isD_tn, DL.isD_bn, DL.isD_sn, DL.isD_ib, DL.isD_tb, DL.isD_bb, DL.isD_sb, DL.isD_nb, DL.isnD_bb, DL.isi_i, DL.isi_b, DL.isi_t, DL.isi_s, DL.isi_n, DL.isTy_ii, DL.isTy_bi, DL.isTy_ib, DL.isTy_bb, DL.isTy_tt, DL.isTy_it, DL.isTy_bt, DL.isTy_ti, DL.isTy_is, DL.isTy_bs, DL.isTy_ss, DL.isTy_st, DL.isTy_nt, DL.isTy_ns, DL.isTy_ni, DL.isTy_ts, DL.isTy_si, DL.isTy_tb, DL.mulD_i, DL.modD_i, DL.fdivD_i, DL.powD_i, DL.tupD_k, DL.lstD_k, DL.fnD_k, DL.endR_rt, DL.endR_nx, DL.endR_ex, List.map_cons, List.map_nil, List.replicate_succ, List.replicate_zero, List.cons_append, List.nil_append, List.getElem?_cons_zero, List.getElem?_cons_succ, List.set_cons_zero, List.set_cons_succ, Nat.reduceSub, Nat.reduceAdd, List.length_cons, List.length_nil, List.any_cons, List.any_nil, Bool.or_false, Bool.or_true, Bool.not_true, Bool.not_false, Nat.reduceLeDiff, Bool.false_or, Bool.true_or, DL.trim_eq, DL.sFor_k, DL.kFor_0, DL.cSrc_k, DL.kSrc_0, DL.cApp_k, DL.kSrcA_0, DL.srcD_t, DL.srcD_f, DL.eqD_ii, DL.neD_ii, DL.ix_t0, DL.ix_t1, p, decide_false], .inl rfl, B4.mono (by omega), Fr.refl⟩
      have n4 : 0 ≤ x.1 * (1 + r) + ch := by
        rcases hc with hc | ⟨hc, p⟩
        · omega
        · have : 0 < x.1 * (1 + r) := Int.mul_pos p (by omega)
          omega
      have z3 : (x.1 * (1 + r) + ch).natAbs < 2 ^ 64 := by
        rw [two64]
        rcases hc with hc | ⟨hc, _⟩ <;> omega
      have lw := lowest_ok s5 n4 bb (lt9000 z1 (by decide))
      refine done (low2 (x.1 * (1 + r) + ch) (x.2 * (1 + r))) s5 (n + 4) (by omega) (Mo.low n4 bb z3 (pow_up z1 (by decide))) B5 (F03.trans (F4.trans F5)) ?_
      rw [pre3, seq_nx e5]
      simp only [S__law_fraction_10, DL.kSeq_0, DL.kSeq_1, DL.kSeq_2, DL.kSeq_3, DL.kSeq_4, DL.sSeq_k, DL.sSkip_k, DL.sBreak_k, DL.sCont_k, DL.sRetN_k, DL.kExpr_0, DL.kExpr_1, DL.sExpr_k, DL.kRet_0, DL.kRet_1, DL.sRet_k, DL.kIf_0, DL.kIf_1, DL.kIf_2, DL.sIf_k, DL.kAsg2_0, DL.kAsg_0, DL.kAsg_1, DL.sAsg_k, DL.sSet_k, DL.gN_k, DL.gsN_k, DL.kG_0, DL.gsC_k, DL.gT_k, DL.kPut4_0, DL.kPut3_0, DL.kPut3_1, DL.kPut2_0, DL.kPut2_1, DL.kPut_0, DL.kPut_1, DL.sPut_k, DL.sPar_k, DL.kVar_0, DL.eVar_k, DL.eC_k, DL.kUn_0, DL.kUn_1, DL.eUn_k, DL.eIsi_k, DL.kBin2_0, DL.kBin2_1, DL.kBin_0, DL.kBin_1, DL.eBin_k, DL.aNil_k, DL.kCons2_0, DL.kCons2_1, DL.kCons_0, DL.kCons_1, DL.aCons_k, DL.kApp_0, DL.kApp_1, DL.eApp_k, DL.kMt2_0, DL.kMt2_1, DL.kMt1_0, DL.kMt_0, DL.kMt_1, DL.eMt_k, DL.kTru_0, DL.kTru_1, DL.tTru_k, DL.kAnd_0, DL.kAnd_1, DL.kAnd_2, DL.tAndF_k, DL.kOr_0, DL.kOr_1, DL.kOr_2, DL.tOrF_k, DL.kNot_0, DL.kNot_1, DL.kNot_2, DL.tNotF_k, DL.kEIf_0, DL.kEIf_1, DL.kEIf_2, DL.eIf_k, DL.kEAnd2_0, DL.kEAnd2_1, DL.kEAnd2_2, DL.kEAnd_0, DL.kEAnd_1, DL.eAnd_k, DL.kEOr2_0, DL.kEOr2_1, DL.kEOr2_2, DL.kEOr_0, DL.kEOr_1, DL.eOr_k, DL.kENot2_0, DL.kENot2_1, DL.kENot2_2, DL.kENot_0, DL.kENot_1, DL.eNot_k, DL.kSl3_0, DL.kSl3_1, DL.kSl2_0, DL.kSl2_1, DL.kSl_0, DL.kSl_1, DL.eSl_k, DL.oNone_k, DL.kOS_0, DL.kOS_1, DL.oSome_k, DL.kKw2_0, DL.kKw2_1, DL.kKw_0, DL.kKw_1, DL.eKw_k, DL.truD_bl, DL.blD_bl, DL.addD_i, DL.subD_i, DL.ltI_i, DL.leI_i, DL.gtI_i, DL.geI_i, DL.negD_i, DL.intD_i, DL.intD_b, DL.max2D_i, DL.min2D_i, DL.gcdD_i, DL.lenD_t, DL.lenD_f, DL.isD_nn, DL.isD_in, DL.isD_tn, DL.isD_bn, DL.isD_sn, DL.isD_ib, DL.isD_tb, DL.isD_bb, DL.isD_sb, DL.isD_nb, DL.isnD_bb, DL.isi_i, DL.isi_b, DL.isi_t, DL.isi_s, DL.isi_n, DL.isTy_ii, DL.isTy_bi, DL.isTy_ib, DL.isTy_bb, DL.isTy_tt, DL.isTy_it, DL.isTy_bt, DL.isTy_ti, DL.isTy_is, DL.isTy_bs, DL.isTy_ss, DL.isTy_st, DL.isTy_nt, DL.isTy_ns, DL.isTy_ni, DL.isTy_ts, DL.isTy_si, DL.isTy_tb, DL.mulD_i, DL.modD_i, DL.fdivD_i, DL.powD_i, DL.tupD_k, DL.lstD_k, DL.fnD_k, DL.endR_rt, DL.endR_nx, DL.endR_ex, List.map_cons, List.map_nil, List.replicate_succ, List.replicate_zero, List.cons_append, List.nil_append, List.getElem?_cons_zero, List.getElem?_cons_succ, List.set_cons_zero, List.set_cons_succ, Nat.reduceSub, Nat.reduceAdd, List.length_cons, List.length_nil, List.any_cons, List.any_nil, Bool.or_false, Bool.or_true, Bool.not_true, Bool.not_false, Nat.reduceLeDiff, Bool.false_or, Bool.true_or, DL.trim_eq, DL.sFor_k, DL.kFor_0, DL.cSrc_k, DL.kSrc_0, DL.cApp_k, DL.kSrcA_0, DL.srcD_t, DL.srcD_f, DL.eqD_ii, DL.neD_ii, DL.ix_t0, DL.ix_t1, mulD_i _ _ _ m1, mulD_i _ _ _ m2, lw]
      rfl
end

theorem one_ok {s : Sto} {b g n : Nat} {x : Int × Int} (B : Box s b g (n + 1)) (M : Mo x) : ∃ s', F__law_one_holds [.loc b, mo x] s = .ok (.bl true) s' ∧ Box s' b g n ∧ Fr b g s s' := by
  obtain ⟨k, hk, st1⟩ : ∃ k : Int, (k = 1 ∨ k = 99) ∧ S__law_one_holds_1 [.d (.loc b), .d (mo x), .d (.int 1), .un, .un, .un, .un, .un] s = .nx [.d (.loc b), .d (mo x), .d (.int k), .un, .un, .un, .un, .un] s := by
    by_cases h : (if x.2 > x.1 then x.2 else x.1) < 10000000000
    · exact ⟨99, .inr rfl, by simp only [S__law_one_holds_1, DL.kSeq_0, DL.kSeq_1, DL.kSeq_2, DL.kSeq_3, DL.kSeq_4, DL.sSeq_k, DL.sSkip_k, DL.sBreak_k, DL.sCont_k, DL.sRetN_k, DL.kExpr_0, DL.kExpr_1, DL.sExpr_k, DL.kRet_0, DL.kRet_1, DL.sRet_k, DL.kIf_0, DL.kIf_1, DL.kIf_2, DL.sIf_k, DL.kAsg2_0, DL.kAsg_0, DL.kAsg_1, DL.sAsg_k, DL.sSet_k, DL.gN_k, DL.gsN_k, DL.kG_0, DL.gsC_k, DL.gT_k, DL.kPut4_0, DL.kPut3_0, DL.kPut3_1, DL.kPut2_0, DL.kPut2_1, DL.kPut_0, DL.kPut_1, DL.sPut_k, DL.sPar_k, DL.kVar_0, DL.eVar_k, DL.eC_k, DL.kUn_0, DL.kUn_1, DL.eUn_k, DL.eIsi_k, DL.kBin2_0, DL.kBin2_1, DL.kBin_0, DL.kBin_1, DL.eBin_k, DL.aNil_k, DL.kCons2_0, DL.kCons2_1, DL.kCons_0, DL.kCons_1, DL.aCons_k, DL.kApp_0, DL.kApp_1, DL.eApp_k, DL.kMt2_0, DL.kMt2_1, DL.kMt1_0, DL.kMt_0, DL.kMt_1, DL.eMt_k, DL.kTru_0, DL.kTru_1, DL.tTru_k, DL.kAnd_0, DL.kAnd_1, DL.kAnd_2, DL.tAndF_k, DL.kOr_0, DL.kOr_1, DL.kOr_2, DL.tOrF_k, DL.kNot_0, DL.kNot_1, DL.kNot_2, DL.tNotF_k, DL.kEIf_0, DL.kEIf_1, DL.kEIf_2, DL.eIf_k, DL.kEAnd2_0, DL.kEAnd2_1, DL.kEAnd2_2, DL.kEAnd_0, DL.kEAnd_1, DL.eAnd_k, DL.kEOr2_0, DL.kEOr2_1, DL.kEOr2_2, DL.kEOr_0, DL.kEOr_1, DL.eOr_k, DL.kENot2_0, DL.kENot2_1, DL.kENot2_2, DL.kENot_0, DL.kENot_1, DL.eNot_k, DL.kSl3_0, DL.kSl3_1, DL.kSl2_0, DL.kSl2_1, DL.kSl_0, DL.kSl_1, DL.eSl_k, DL.oNone_k, DL.kOS_0, DL.kOS_1, DL.oSome_k, DL.kKw2_0, DL.kKw2_1, DL.kKw_0, DL.kKw_1, DL.eKw_k, DL.truD_bl, DL.blD_bl, DL.addD_i, DL.subD_i, DL.ltI_i, DL.leI_i, DL.gtI_i, DL.geI_i, DL.negD_i, DL.intD_i, DL.intD_b, DL.max2D_i, DL.min2D_i, DL.gcdD_i, DL.lenD_t, DL.lenD_f, DL.isD_nn, DL.isD_in, DL.isD_tn, DL.isD_bn, DL.isD_sn, DL.isD_ib, DL.isD_tb, DL.isD_bb, DL.isD_sb, DL.isD_nb, DL.isnD_bb, DL.isi_i, DL.isi_b, DL.isi_t, DL.isi_s, DL.isi_n, DL.isTy_ii, DL.isTy_bi, DL.isTy_ib, DL.isTy_bb, DL.isTy_tt, DL.isTy_it, DL.isTy_bt, DL.isTy_ti, DL.isTy_is, DL.isTy_bs, DL.isTy_ss, DL.isTy_st, DL.isTy_nt, DL.isTy_ns, DL.isTy_ni, DL.isTy_ts, DL.isTy_si, DL.isTy_tb, DL.mulD_i, DL.modD_i, DL.fdivD_i, DL.powD_i, DL.tupD_k, DL.lstD_k, DL.fnD_k, DL.endR_rt, DL.endR_nx, DL.endR_ex, List.map_cons, List.map_nil, List.replicate_succ, List.replicate_zero, List.cons_append, List.nil_append, List.getElem?_cons_zero, List.getElem?_cons_succ, List.set_cons_zero, List.set_cons_succ, Nat.reduceSub, Nat.reduceAdd, List.length_cons, List.length_nil, List.any_cons, List.any_nil, Bool.or_false, Bool.or_true, Bool.not_true, Bool.not_false, Nat.reduceLeDiff, Bool.false_or, Bool.true_or, DL.trim_eq, DL.sFor_k, DL.kFor_0, DL.cSrc_k, DL.kSrc_0, DL.cApp_k, DL.kSrcA_0, DL.srcD_t, DL.srcD_f, DL.eqD_ii, DL.neD_ii, DL.ix_t0, DL.ix_t1, p1010, h, decide_true]⟩
    · exact ⟨1, .inl rfl, by simp only [S__law_one_holds_1, DL.kSeq_0, DL.kSeq_1, DL.kSeq_2, DL.kSeq_3, DL.kSeq_4, DL.sSeq_k, DL.sSkip_k, DL.sBreak_k, DL.sCont_k, DL.sRetN_k, DL.kExpr_0, DL.kExpr_1, DL.sExpr_k, DL.kRet_0, DL.kRet_1, DL.sRet_k, DL.kIf_0, DL.kIf_1, DL.kIf_2, DL.sIf_k, DL.kAsg2_0, DL.kAsg_0, DL.kAsg_1, DL.sAsg_k, DL.sSet_k, DL.gN_k, DL.gsN_k, DL.kG_0, DL.gsC_k, DL.gT_k, DL.kPut4_0, DL.kPut3_0, DL.kPut3_1, DL.kPut2_0, DL.kPut2_1, DL.kPut_0, DL.kPut_1, DL.sPut_k, DL.sPar_k, DL.kVar_0, DL.eVar_k, DL.eC_k, DL.kUn_0, DL.kUn_1, DL.eUn_k, DL.eIsi_k, DL.kBin2_0, DL.kBin2_1, DL.kBin_0, DL.kBin_1, DL.eBin_k, DL.aNil_k, DL.kCons2_0, DL.kCons2_1, DL.kCons_0, DL.kCons_1, DL.aCons_k, DL.kApp_0, DL.kApp_1, DL.eApp_k, DL.kMt2_0, DL.kMt2_1, DL.kMt1_0, DL.kMt_0, DL.kMt_1, DL.eMt_k, DL.kTru_0, DL.kTru_1, DL.tTru_k, DL.kAnd_0, DL.kAnd_1, DL.kAnd_2, DL.tAndF_k, DL.kOr_0, DL.kOr_1, DL.kOr_2, DL.tOrF_k, DL.kNot_0, DL.kNot_1, DL.kNot_2, DL.tNotF_k, DL.kEIf_0, DL.kEIf_1, DL.kEIf_2, DL.eIf_k, DL.kEAnd2_0, DL.kEAnd2_1, DL.kEAnd2_2, DL.kEAnd_0, DL.kEAnd_1, DL.eAnd_k, DL.kEOr2_0, DL.kEOr2_1, DL.kEOr2_2, DL.kEOr_0, DL.kEOr_1, DL.eOr_k, DL.kENot2_0, DL.kENot2_1, DL.kENot2_2, DL.kENot_0, DL.kENot_1, DL.eNot_k, DL.kSl3_0, DL.kSl3_1, DL.kSl2_0, DL.kSl2_1, DL.kSl_0, DL.kSl_1, DL.eSl_k, DL.oNone_k, DL.kOS_0, DL.kOS_1, DL.oSome_k, DL.kKw2_0, DL.kKw2_1, DL.kKw_0, DL.kKw_1, DL.eKw_k, DL.truD_bl, DL.blD_bl, DL.addD_i, DL.subD_i, DL.ltI_i, DL.leI_i, DL.gtI_i, DL.geI_i, DL.negD_i, DL.intD_i, DL.intD_b, DL.max2D_i, DL.min2D_i, DL.gcdD_i, DL.lenD_t, DL.lenD_f, DL.isD_nn, DL.isD_in, DL.isD_tn, DL.isD_bn, DL.isD_sn, DL.isD_ib, DL.isD_tb, DL.isD_bb, DL.isD_sb, DL.isD_nb, DL.isnD_bb, DL.isi_i, DL.isi_b, DL.isi_t, DL.isi_s, DL.isi_n, DL.isTy_ii, DL.isTy_bi, DL.isTy_ib, DL.isTy_bb, DL.isTy_tt, DL.isTy_it, DL.isTy_bt, DL.isTy_ti, DL.isTy_is, DL.isTy_bs, DL.isTy_ss, DL.isTy_st, DL.isTy_nt, DL.isTy_ns, DL.isTy_ni, DL.isTy_ts, DL.isTy_si, DL.isTy_tb, DL.mulD_i, DL.modD_i, DL.fdivD_i, DL.powD_i, DL.tupD_k, DL.lstD_k, DL.fnD_k, DL.endR_rt, DL.endR_nx, DL.endR_ex, List.map_cons, List.map_nil, List.replicate_succ, List.replicate_zero, List.cons_append, List.nil_append, List.getElem?_cons_zero, List.getElem?_cons_succ, List.set_cons_zero, List.set_cons_succ, Nat.reduceSub, Nat.reduceAdd, List.length_cons, List.length_nil, List.any_cons, List.any_nil, Bool.or_false, Bool.or_true, Bool.not_true, Bool.not_false, Nat.reduceLeDiff, Bool.false_or, Bool.true_or, DL.trim_eq, DL.sFor_k, DL.kFor_0, DL.cSrc_k, DL.kSrc_0, DL.cApp_k, DL.kSrcA_0, DL.srcD_t, DL.srcD_f, DL.eqD_ii, DL.neD_ii, DL.ix_t0, DL.ix_t1, p1010, h, decide_false]⟩
  obtain ⟨r, s1, e1, r0, r1, B1, F1⟩ := draw_ok (k := k) B (by omega) (k9000 (by omega) (by omega))
  have r99 : r < 99 := by omega
  obtain ⟨f, hf⟩ : ∃ f, f = 1 + r := ⟨_, rfl⟩
  have f1 : 1 ≤ f := by omega
  have fz : f.natAbs < 2 ^ 7 := by omega
  have m1 : mulOk x.1 f = true := mulOk_b M.t6 fz (by decide) (by decide)
  have m2 : mulOk x.2 f = true := mulOk_b M.b6 fz (by decide) (by decide)
  have tb : 0 ≤ x.1 * f := Int.mul_nonneg M.t (by omega)
  have bb : 1 ≤ x.2 * f := Int.mul_pos (by have := M.b; omega) (by omega)
  have z2 : (x.2 * f).natAbs < 2 ^ 71 := natAbs_mul_lt M.b6 fz
  have gf : gI (x.1 * f) (x.2 * f) = f := by rw [gI_mul M.t (by have := M.b; omega) (by omega), M.g, Int.one_mul]
  have lo : loD (x.1 * f) (x.2 * f) = mo x := by
    unfold loD
    rw [gf, Int.mul_ediv_cancel _ (by omega), Int.mul_ediv_cancel _ (by omega)]
  have lo1 : loD (x.1 * f) 1 = mo (x.1 * f, 1) := by
    unfold loD
    rw [gI_one, Int.ediv_one, Int.ediv_one]
  have q0 : 0 < x.2 := by have := M.b; omega
  have mq : mulOk (x.1 / x.2) x.2 = true := by
    refine mulOk_b (m := 64) ?_ M.b6 (by decide) (by decide)
    have h1 : 0 ≤ x.1 / x.2 := Int.ediv_nonneg M.t (by omega)
    have h2 : x.1 / x.2 ≤ x.1 := Int.ediv_le_self _ M.t
    have := M.t6
    omega
  have em : x.1 - x.1 / x.2 * x.2 = x.1 % x.2 := by rw [Int.emod_def, Int.mul_comm x.2]
  have lw := lowest_ok s1 (a := x.1 % x.2) (b := x.2) (Int.emod_nonneg _ (by omega)) M.b (lt9000 M.b6 (by decide))
  have lo2 : loD (x.1 % x.2) x.2 = .tup [.int (x.1 % x.2), .int x.2] := by
    unfold loD
    rw [gI_mod M.t q0, M.g, Int.ediv_one, Int.ediv_one]
  rw [lo2] at lw
  have im := is_moment_t (x.1 * f) (x.2 * f) s1
  rw [decide_eq_true tb, decide_eq_true bb, gf, Bool.true_and, Bool.true_and] at im
  have im2 := is_moment_t x.1 x.2 s1
  rw [decide_eq_true M.t, decide_eq_true M.b, M.g, Bool.true_and, Bool.true_and] at im2
  obtain ⟨s2, t2, B2, F2⟩ := Box.trim (d := .bl true) B.lt.1 B.lt.2 B1 F1
  refine ⟨s2, ?_, B2, F2⟩
  rw [← t2]
  simp only [F__law_one_holds, B__law_one_holds, S__law_one_holds_0, DL.kSeq_0, DL.kSeq_1, DL.kSeq_2, DL.kSeq_3, DL.kSeq_4, DL.sSeq_k, DL.sSkip_k, DL.sBreak_k, DL.sCont_k, DL.sRetN_k, DL.kExpr_0, DL.kExpr_1, DL.sExpr_k, DL.kRet_0, DL.kRet_1, DL.sRet_k, DL.kIf_0, DL.kIf_1, DL.kIf_2, DL.sIf_k, DL.kAsg2_0, DL.kAsg_0, DL.kAsg_1, DL.sAsg_k, DL.sSet_k, DL.gN_k, DL.gsN_k, DL.kG_0, DL.gsC_k, DL.gT_k, DL.kPut4_0, DL.kPut3_0, DL.kPut3_1, DL.kPut2_0, DL.kPut2_1, DL.kPut_0, DL.kPut_1, DL.sPut_k, DL.sPar_k, DL.kVar_0, DL.eVar_k, DL.eC_k, DL.kUn_0, DL.kUn_1, DL.eUn_k, DL.eIsi_k, DL.kBin2_0, DL.kBin2_1, DL.kBin_0, DL.kBin_1, DL.eBin_k, DL.aNil_k, DL.kCons2_0, DL.kCons2_1, DL.kCons_0, DL.kCons_1, DL.aCons_k, DL.kApp_0, DL.kApp_1, DL.eApp_k, DL.kMt2_0, DL.kMt2_1, DL.kMt1_0, DL.kMt_0, DL.kMt_1, DL.eMt_k, DL.kTru_0, DL.kTru_1, DL.tTru_k, DL.kAnd_0, DL.kAnd_1, DL.kAnd_2, DL.tAndF_k, DL.kOr_0, DL.kOr_1, DL.kOr_2, DL.tOrF_k, DL.kNot_0, DL.kNot_1, DL.kNot_2, DL.tNotF_k, DL.kEIf_0, DL.kEIf_1, DL.kEIf_2, DL.eIf_k, DL.kEAnd2_0, DL.kEAnd2_1, DL.kEAnd2_2, DL.kEAnd_0, DL.kEAnd_1, DL.eAnd_k, DL.kEOr2_0, DL.kEOr2_1, DL.kEOr2_2, DL.kEOr_0, DL.kEOr_1, DL.eOr_k, DL.kENot2_0, DL.kENot2_1, DL.kENot2_2, DL.kENot_0, DL.kENot_1, DL.eNot_k, DL.kSl3_0, DL.kSl3_1, DL.kSl2_0, DL.kSl2_1, DL.kSl_0, DL.kSl_1, DL.eSl_k, DL.oNone_k, DL.kOS_0, DL.kOS_1, DL.oSome_k, DL.kKw2_0, DL.kKw2_1, DL.kKw_0, DL.kKw_1, DL.eKw_k, DL.truD_bl, DL.blD_bl, DL.addD_i, DL.subD_i, DL.ltI_i, DL.leI_i, DL.gtI_i, DL.geI_i, DL.negD_i, DL.intD_i, DL.intD_b, DL.max2D_i, DL.min2D_i, DL.gcdD_i, DL.lenD_t, DL.lenD_f, DL.isD_nn, DL.isD_in, DL.isD_tn, DL.isD_bn, DL.isD_sn, DL.isD_ib, DL.isD_tb, DL.isD_bb, DL.isD_sb, DL.isD_nb, DL.isnD_bb, DL.isi_i, DL.isi_b, DL.isi_t, DL.isi_s, DL.isi_n, DL.isTy_ii, DL.isTy_bi, DL.isTy_ib, DL.isTy_bb, DL.isTy_tt, DL.isTy_it, DL.isTy_bt, DL.isTy_ti, DL.isTy_is, DL.isTy_bs, DL.isTy_ss, DL.isTy_st, DL.isTy_nt, DL.isTy_ns, DL.isTy_ni, DL.isTy_ts, DL.isTy_si, DL.isTy_tb, DL.mulD_i, DL.modD_i, DL.fdivD_i, DL.powD_i, DL.tupD_k, DL.lstD_k, DL.fnD_k, DL.endR_rt, DL.endR_nx, DL.endR_ex, List.map_cons, List.map_nil, List.replicate_succ, List.replicate_zero, List.cons_append, List.nil_append, List.getElem?_cons_zero, List.getElem?_cons_succ, List.set_cons_zero, List.set_cons_succ, Nat.reduceSub, Nat.reduceAdd, List.length_cons, List.length_nil, List.any_cons, List.any_nil, Bool.or_false, Bool.or_true, Bool.not_true, Bool.not_false, Nat.reduceLeDiff, Bool.false_or, Bool.true_or, DL.trim_eq, DL.sFor_k, DL.kFor_0, DL.cSrc_k, DL.kSrc_0, DL.cApp_k, DL.kSrcA_0, DL.srcD_t, DL.srcD_f, DL.eqD_ii, DL.neD_ii, DL.ix_t0, DL.ix_t1, st1]
  simp only [S__law_one_holds_2, S__law_one_holds_3, S__law_one_holds_4, DL.kSeq_0, DL.kSeq_1, DL.kSeq_2, DL.kSeq_3, DL.kSeq_4, DL.sSeq_k, DL.sSkip_k, DL.sBreak_k, DL.sCont_k, DL.sRetN_k, DL.kExpr_0, DL.kExpr_1, DL.sExpr_k, DL.kRet_0, DL.kRet_1, DL.sRet_k, DL.kIf_0, DL.kIf_1, DL.kIf_2, DL.sIf_k, DL.kAsg2_0, DL.kAsg_0, DL.kAsg_1, DL.sAsg_k, DL.sSet_k, DL.gN_k, DL.gsN_k, DL.kG_0, DL.gsC_k, DL.gT_k, DL.kPut4_0, DL.kPut3_0, DL.kPut3_1, DL.kPut2_0, DL.kPut2_1, DL.kPut_0, DL.kPut_1, DL.sPut_k, DL.sPar_k, DL.kVar_0, DL.eVar_k, DL.eC_k, DL.kUn_0, DL.kUn_1, DL.eUn_k, DL.eIsi_k, DL.kBin2_0, DL.kBin2_1, DL.kBin_0, DL.kBin_1, DL.eBin_k, DL.aNil_k, DL.kCons2_0, DL.kCons2_1, DL.kCons_0, DL.kCons_1, DL.aCons_k, DL.kApp_0, DL.kApp_1, DL.eApp_k, DL.kMt2_0, DL.kMt2_1, DL.kMt1_0, DL.kMt_0, DL.kMt_1, DL.eMt_k, DL.kTru_0, DL.kTru_1, DL.tTru_k, DL.kAnd_0, DL.kAnd_1, DL.kAnd_2, DL.tAndF_k, DL.kOr_0, DL.kOr_1, DL.kOr_2, DL.tOrF_k, DL.kNot_0, DL.kNot_1, DL.kNot_2, DL.tNotF_k, DL.kEIf_0, DL.kEIf_1, DL.kEIf_2, DL.eIf_k, DL.kEAnd2_0, DL.kEAnd2_1, DL.kEAnd2_2, DL.kEAnd_0, DL.kEAnd_1, DL.eAnd_k, DL.kEOr2_0, DL.kEOr2_1, DL.kEOr2_2, DL.kEOr_0, DL.kEOr_1, DL.eOr_k, DL.kENot2_0, DL.kENot2_1, DL.kENot2_2, DL.kENot_0, DL.kENot_1, DL.eNot_k, DL.kSl3_0, DL.kSl3_1, DL.kSl2_0, DL.kSl2_1, DL.kSl_0, DL.kSl_1, DL.eSl_k, DL.oNone_k, DL.kOS_0, DL.kOS_1, DL.oSome_k, DL.kKw2_0, DL.kKw2_1, DL.kKw_0, DL.kKw_1, DL.eKw_k, DL.truD_bl, DL.blD_bl, DL.addD_i, DL.subD_i, DL.ltI_i, DL.leI_i, DL.gtI_i, DL.geI_i, DL.negD_i, DL.intD_i, DL.intD_b, DL.max2D_i, DL.min2D_i, DL.gcdD_i, DL.lenD_t, DL.lenD_f, DL.isD_nn, DL.isD_in, DL.isD_tn, DL.isD_bn, DL.isD_sn, DL.isD_ib, DL.isD_tb, DL.isD_bb, DL.isD_sb, DL.isD_nb, DL.isnD_bb, DL.isi_i, DL.isi_b, DL.isi_t, DL.isi_s, DL.isi_n, DL.isTy_ii, DL.isTy_bi, DL.isTy_ib, DL.isTy_bb, DL.isTy_tt, DL.isTy_it, DL.isTy_bt, DL.isTy_ti, DL.isTy_is, DL.isTy_bs, DL.isTy_ss, DL.isTy_st, DL.isTy_nt, DL.isTy_ns, DL.isTy_ni, DL.isTy_ts, DL.isTy_si, DL.isTy_tb, DL.mulD_i, DL.modD_i, DL.fdivD_i, DL.powD_i, DL.tupD_k, DL.lstD_k, DL.fnD_k, DL.endR_rt, DL.endR_nx, DL.endR_ex, List.map_cons, List.map_nil, List.replicate_succ, List.replicate_zero, List.cons_append, List.nil_append, List.getElem?_cons_zero, List.getElem?_cons_succ, List.set_cons_zero, List.set_cons_succ, Nat.reduceSub, Nat.reduceAdd, List.length_cons, List.length_nil, List.any_cons, List.any_nil, Bool.or_false, Bool.or_true, Bool.not_true, Bool.not_false, Nat.reduceLeDiff, Bool.false_or, Bool.true_or, DL.trim_eq, DL.sFor_k, DL.kFor_0, DL.cSrc_k, DL.kSrc_0, DL.cApp_k, DL.kSrcA_0, DL.srcD_t, DL.srcD_f, DL.eqD_ii, DL.neD_ii, DL.ix_t0, DL.ix_t1, e1, ← hf, mulD_i _ _ _ m1, mulD_i _ _ _ m2]
  simp only [S__law_one_holds_5, DL.kSeq_0, DL.kSeq_1, DL.kSeq_2, DL.kSeq_3, DL.kSeq_4, DL.sSeq_k, DL.sSkip_k, DL.sBreak_k, DL.sCont_k, DL.sRetN_k, DL.kExpr_0, DL.kExpr_1, DL.sExpr_k, DL.kRet_0, DL.kRet_1, DL.sRet_k, DL.kIf_0, DL.kIf_1, DL.kIf_2, DL.sIf_k, DL.kAsg2_0, DL.kAsg_0, DL.kAsg_1, DL.sAsg_k, DL.sSet_k, DL.gN_k, DL.gsN_k, DL.kG_0, DL.gsC_k, DL.gT_k, DL.kPut4_0, DL.kPut3_0, DL.kPut3_1, DL.kPut2_0, DL.kPut2_1, DL.kPut_0, DL.kPut_1, DL.sPut_k, DL.sPar_k, DL.kVar_0, DL.eVar_k, DL.eC_k, DL.kUn_0, DL.kUn_1, DL.eUn_k, DL.eIsi_k, DL.kBin2_0, DL.kBin2_1, DL.kBin_0, DL.kBin_1, DL.eBin_k, DL.aNil_k, DL.kCons2_0, DL.kCons2_1, DL.kCons_0, DL.kCons_1, DL.aCons_k, DL.kApp_0, DL.kApp_1, DL.eApp_k, DL.kMt2_0, DL.kMt2_1, DL.kMt1_0, DL.kMt_0, DL.kMt_1, DL.eMt_k, DL.kTru_0, DL.kTru_1, DL.tTru_k, DL.kAnd_0, DL.kAnd_1, DL.kAnd_2, DL.tAndF_k, DL.kOr_0, DL.kOr_1, DL.kOr_2, DL.tOrF_k, DL.kNot_0, DL.kNot_1, DL.kNot_2, DL.tNotF_k, DL.kEIf_0, DL.kEIf_1, DL.kEIf_2, DL.eIf_k, DL.kEAnd2_0, DL.kEAnd2_1, DL.kEAnd2_2, DL.kEAnd_0, DL.kEAnd_1, DL.eAnd_k, DL.kEOr2_0, DL.kEOr2_1, DL.kEOr2_2, DL.kEOr_0, DL.kEOr_1, DL.eOr_k, DL.kENot2_0, DL.kENot2_1, DL.kENot2_2, DL.kENot_0, DL.kENot_1, DL.eNot_k, DL.kSl3_0, DL.kSl3_1, DL.kSl2_0, DL.kSl2_1, DL.kSl_0, DL.kSl_1, DL.eSl_k, DL.oNone_k, DL.kOS_0, DL.kOS_1, DL.oSome_k, DL.kKw2_0, DL.kKw2_1, DL.kKw_0, DL.kKw_1, DL.eKw_k, DL.truD_bl, DL.blD_bl, DL.addD_i, DL.subD_i, DL.ltI_i, DL.leI_i, DL.gtI_i, DL.geI_i, DL.negD_i, DL.intD_i, DL.intD_b, DL.max2D_i, DL.min2D_i, DL.gcdD_i, DL.lenD_t, DL.lenD_f, DL.isD_nn, DL.isD_in, DL.isD_tn, DL.isD_bn, DL.isD_sn, DL.isD_ib, DL.isD_tb, DL.isD_bb, DL.isD_sb, DL.isD_nb, DL.isnD_bb, DL.isi_i, DL.isi_b, DL.isi_t, DL.isi_s, DL.isi_n, DL.isTy_ii, DL.isTy_bi, DL.isTy_ib, DL.isTy_bb, DL.isTy_tt, DL.isTy_it, DL.isTy_bt, DL.isTy_ti, DL.isTy_is, DL.isTy_bs, DL.isTy_ss, DL.isTy_st, DL.isTy_nt, DL.isTy_ns, DL.isTy_ni, DL.isTy_ts, DL.isTy_si, DL.isTy_tb, DL.mulD_i, DL.modD_i, DL.fdivD_i, DL.powD_i, DL.tupD_k, DL.lstD_k, DL.fnD_k, DL.endR_rt, DL.endR_nx, DL.endR_ex, List.map_cons, List.map_nil, List.replicate_succ, List.replicate_zero, List.cons_append, List.nil_append, List.getElem?_cons_zero, List.getElem?_cons_succ, List.set_cons_zero, List.set_cons_succ, Nat.reduceSub, Nat.reduceAdd, List.length_cons, List.length_nil, List.any_cons, List.any_nil, Bool.or_false, Bool.or_true, Bool.not_true, Bool.not_false, Nat.reduceLeDiff, Bool.false_or, Bool.true_or, DL.trim_eq, DL.sFor_k, DL.kFor_0, DL.cSrc_k, DL.kSrc_0, DL.cApp_k, DL.kSrcA_0, DL.srcD_t, DL.srcD_f, DL.eqD_ii, DL.neD_ii, DL.ix_t0, DL.ix_t1, made_ok s1 tb bb (lt9000 z2 (by decide)), lo, same8 (.tup [.bl true, mo x]) s1 (by simp [gd])]
  simp only [S__law_one_holds_6, DL.kSeq_0, DL.kSeq_1, DL.kSeq_2, DL.kSeq_3, DL.kSeq_4, DL.sSeq_k, DL.sSkip_k, DL.sBreak_k, DL.sCont_k, DL.sRetN_k, DL.kExpr_0, DL.kExpr_1, DL.sExpr_k, DL.kRet_0, DL.kRet_1, DL.sRet_k, DL.kIf_0, DL.kIf_1, DL.kIf_2, DL.sIf_k, DL.kAsg2_0, DL.kAsg_0, DL.kAsg_1, DL.sAsg_k, DL.sSet_k, DL.gN_k, DL.gsN_k, DL.kG_0, DL.gsC_k, DL.gT_k, DL.kPut4_0, DL.kPut3_0, DL.kPut3_1, DL.kPut2_0, DL.kPut2_1, DL.kPut_0, DL.kPut_1, DL.sPut_k, DL.sPar_k, DL.kVar_0, DL.eVar_k, DL.eC_k, DL.kUn_0, DL.kUn_1, DL.eUn_k, DL.eIsi_k, DL.kBin2_0, DL.kBin2_1, DL.kBin_0, DL.kBin_1, DL.eBin_k, DL.aNil_k, DL.kCons2_0, DL.kCons2_1, DL.kCons_0, DL.kCons_1, DL.aCons_k, DL.kApp_0, DL.kApp_1, DL.eApp_k, DL.kMt2_0, DL.kMt2_1, DL.kMt1_0, DL.kMt_0, DL.kMt_1, DL.eMt_k, DL.kTru_0, DL.kTru_1, DL.tTru_k, DL.kAnd_0, DL.kAnd_1, DL.kAnd_2, DL.tAndF_k, DL.kOr_0, DL.kOr_1, DL.kOr_2, DL.tOrF_k, DL.kNot_0, DL.kNot_1, DL.kNot_2, DL.tNotF_k, DL.kEIf_0, DL.kEIf_1, DL.kEIf_2, DL.eIf_k, DL.kEAnd2_0, DL.kEAnd2_1, DL.kEAnd2_2, DL.kEAnd_0, DL.kEAnd_1, DL.eAnd_k, DL.kEOr2_0, DL.kEOr2_1, DL.kEOr2_2, DL.kEOr_0, DL.kEOr_1, DL.eOr_k, DL.kENot2_0, DL.kENot2_1, DL.kENot2_2, DL.kENot_0, DL.kENot_1, DL.eNot_k, DL.kSl3_0, DL.kSl3_1, DL.kSl2_0, DL.kSl2_1, DL.kSl_0, DL.kSl_1, DL.eSl_k, DL.oNone_k, DL.kOS_0, DL.kOS_1, DL.oSome_k, DL.kKw2_0, DL.kKw2_1, DL.kKw_0, DL.kKw_1, DL.eKw_k, DL.truD_bl, DL.blD_bl, DL.addD_i, DL.subD_i, DL.ltI_i, DL.leI_i, DL.gtI_i, DL.geI_i, DL.negD_i, DL.intD_i, DL.intD_b, DL.max2D_i, DL.min2D_i, DL.gcdD_i, DL.lenD_t, DL.lenD_f, DL.isD_nn, DL.isD_in, DL.isD_tn, DL.isD_bn, DL.isD_sn, DL.isD_ib, DL.isD_tb, DL.isD_bb, DL.isD_sb, DL.isD_nb, DL.isnD_bb, DL.isi_i, DL.isi_b, DL.isi_t, DL.isi_s, DL.isi_n, DL.isTy_ii, DL.isTy_bi, DL.isTy_ib, DL.isTy_bb, DL.isTy_tt, DL.isTy_it, DL.isTy_bt, DL.isTy_ti, DL.isTy_is, DL.isTy_bs, DL.isTy_ss, DL.isTy_st, DL.isTy_nt, DL.isTy_ns, DL.isTy_ni, DL.isTy_ts, DL.isTy_si, DL.isTy_tb, DL.mulD_i, DL.modD_i, DL.fdivD_i, DL.powD_i, DL.tupD_k, DL.lstD_k, DL.fnD_k, DL.endR_rt, DL.endR_nx, DL.endR_ex, List.map_cons, List.map_nil, List.replicate_succ, List.replicate_zero, List.cons_append, List.nil_append, List.getElem?_cons_zero, List.getElem?_cons_succ, List.set_cons_zero, List.set_cons_succ, Nat.reduceSub, Nat.reduceAdd, List.length_cons, List.length_nil, List.any_cons, List.any_nil, Bool.or_false, Bool.or_true, Bool.not_true, Bool.not_false, Nat.reduceLeDiff, Bool.false_or, Bool.true_or, DL.trim_eq, DL.sFor_k, DL.kFor_0, DL.cSrc_k, DL.kSrc_0, DL.cApp_k, DL.kSrcA_0, DL.srcD_t, DL.srcD_f, DL.eqD_ii, DL.neD_ii, DL.ix_t0, DL.ix_t1, im, im2, same8 (.bl (f == 1)) s1 rfl, beq_self_eq_true, show isnD (.bl true) (.bl true) s1 = .ok (.bl false) s1 from rfl]
  simp only [S__law_one_holds_7, DL.kSeq_0, DL.kSeq_1, DL.kSeq_2, DL.kSeq_3, DL.kSeq_4, DL.sSeq_k, DL.sSkip_k, DL.sBreak_k, DL.sCont_k, DL.sRetN_k, DL.kExpr_0, DL.kExpr_1, DL.sExpr_k, DL.kRet_0, DL.kRet_1, DL.sRet_k, DL.kIf_0, DL.kIf_1, DL.kIf_2, DL.sIf_k, DL.kAsg2_0, DL.kAsg_0, DL.kAsg_1, DL.sAsg_k, DL.sSet_k, DL.gN_k, DL.gsN_k, DL.kG_0, DL.gsC_k, DL.gT_k, DL.kPut4_0, DL.kPut3_0, DL.kPut3_1, DL.kPut2_0, DL.kPut2_1, DL.kPut_0, DL.kPut_1, DL.sPut_k, DL.sPar_k, DL.kVar_0, DL.eVar_k, DL.eC_k, DL.kUn_0, DL.kUn_1, DL.eUn_k, DL.eIsi_k, DL.kBin2_0, DL.kBin2_1, DL.kBin_0, DL.kBin_1, DL.eBin_k, DL.aNil_k, DL.kCons2_0, DL.kCons2_1, DL.kCons_0, DL.kCons_1, DL.aCons_k, DL.kApp_0, DL.kApp_1, DL.eApp_k, DL.kMt2_0, DL.kMt2_1, DL.kMt1_0, DL.kMt_0, DL.kMt_1, DL.eMt_k, DL.kTru_0, DL.kTru_1, DL.tTru_k, DL.kAnd_0, DL.kAnd_1, DL.kAnd_2, DL.tAndF_k, DL.kOr_0, DL.kOr_1, DL.kOr_2, DL.tOrF_k, DL.kNot_0, DL.kNot_1, DL.kNot_2, DL.tNotF_k, DL.kEIf_0, DL.kEIf_1, DL.kEIf_2, DL.eIf_k, DL.kEAnd2_0, DL.kEAnd2_1, DL.kEAnd2_2, DL.kEAnd_0, DL.kEAnd_1, DL.eAnd_k, DL.kEOr2_0, DL.kEOr2_1, DL.kEOr2_2, DL.kEOr_0, DL.kEOr_1, DL.eOr_k, DL.kENot2_0, DL.kENot2_1, DL.kENot2_2, DL.kENot_0, DL.kENot_1, DL.eNot_k, DL.kSl3_0, DL.kSl3_1, DL.kSl2_0, DL.kSl2_1, DL.kSl_0, DL.kSl_1, DL.eSl_k, DL.oNone_k, DL.kOS_0, DL.kOS_1, DL.oSome_k, DL.kKw2_0, DL.kKw2_1, DL.kKw_0, DL.kKw_1, DL.eKw_k, DL.truD_bl, DL.blD_bl, DL.addD_i, DL.subD_i, DL.ltI_i, DL.leI_i, DL.gtI_i, DL.geI_i, DL.negD_i, DL.intD_i, DL.intD_b, DL.max2D_i, DL.min2D_i, DL.gcdD_i, DL.lenD_t, DL.lenD_f, DL.isD_nn, DL.isD_in, DL.isD_tn, DL.isD_bn, DL.isD_sn, DL.isD_ib, DL.isD_tb, DL.isD_bb, DL.isD_sb, DL.isD_nb, DL.isnD_bb, DL.isi_i, DL.isi_b, DL.isi_t, DL.isi_s, DL.isi_n, DL.isTy_ii, DL.isTy_bi, DL.isTy_ib, DL.isTy_bb, DL.isTy_tt, DL.isTy_it, DL.isTy_bt, DL.isTy_ti, DL.isTy_is, DL.isTy_bs, DL.isTy_ss, DL.isTy_st, DL.isTy_nt, DL.isTy_ns, DL.isTy_ni, DL.isTy_ts, DL.isTy_si, DL.isTy_tb, DL.mulD_i, DL.modD_i, DL.fdivD_i, DL.powD_i, DL.tupD_k, DL.lstD_k, DL.fnD_k, DL.endR_rt, DL.endR_nx, DL.endR_ex, List.map_cons, List.map_nil, List.replicate_succ, List.replicate_zero, List.cons_append, List.nil_append, List.getElem?_cons_zero, List.getElem?_cons_succ, List.set_cons_zero, List.set_cons_succ, Nat.reduceSub, Nat.reduceAdd, List.length_cons, List.length_nil, List.any_cons, List.any_nil, Bool.or_false, Bool.or_true, Bool.not_true, Bool.not_false, Nat.reduceLeDiff, Bool.false_or, Bool.true_or, DL.trim_eq, DL.sFor_k, DL.kFor_0, DL.cSrc_k, DL.kSrc_0, DL.cApp_k, DL.kSrcA_0, DL.srcD_t, DL.srcD_f, DL.eqD_ii, DL.neD_ii, DL.ix_t0, DL.ix_t1, made_alone s1 tb, lo1, same8 (.tup [.bl true, mo (x.1 * f, 1)]) s1 (by simp [gd])]
  simp only [S__law_one_holds_8, S__law_one_holds_9, S__law_one_holds_10, DL.kSeq_0, DL.kSeq_1, DL.kSeq_2, DL.kSeq_3, DL.kSeq_4, DL.sSeq_k, DL.sSkip_k, DL.sBreak_k, DL.sCont_k, DL.sRetN_k, DL.kExpr_0, DL.kExpr_1, DL.sExpr_k, DL.kRet_0, DL.kRet_1, DL.sRet_k, DL.kIf_0, DL.kIf_1, DL.kIf_2, DL.sIf_k, DL.kAsg2_0, DL.kAsg_0, DL.kAsg_1, DL.sAsg_k, DL.sSet_k, DL.gN_k, DL.gsN_k, DL.kG_0, DL.gsC_k, DL.gT_k, DL.kPut4_0, DL.kPut3_0, DL.kPut3_1, DL.kPut2_0, DL.kPut2_1, DL.kPut_0, DL.kPut_1, DL.sPut_k, DL.sPar_k, DL.kVar_0, DL.eVar_k, DL.eC_k, DL.kUn_0, DL.kUn_1, DL.eUn_k, DL.eIsi_k, DL.kBin2_0, DL.kBin2_1, DL.kBin_0, DL.kBin_1, DL.eBin_k, DL.aNil_k, DL.kCons2_0, DL.kCons2_1, DL.kCons_0, DL.kCons_1, DL.aCons_k, DL.kApp_0, DL.kApp_1, DL.eApp_k, DL.kMt2_0, DL.kMt2_1, DL.kMt1_0, DL.kMt_0, DL.kMt_1, DL.eMt_k, DL.kTru_0, DL.kTru_1, DL.tTru_k, DL.kAnd_0, DL.kAnd_1, DL.kAnd_2, DL.tAndF_k, DL.kOr_0, DL.kOr_1, DL.kOr_2, DL.tOrF_k, DL.kNot_0, DL.kNot_1, DL.kNot_2, DL.tNotF_k, DL.kEIf_0, DL.kEIf_1, DL.kEIf_2, DL.eIf_k, DL.kEAnd2_0, DL.kEAnd2_1, DL.kEAnd2_2, DL.kEAnd_0, DL.kEAnd_1, DL.eAnd_k, DL.kEOr2_0, DL.kEOr2_1, DL.kEOr2_2, DL.kEOr_0, DL.kEOr_1, DL.eOr_k, DL.kENot2_0, DL.kENot2_1, DL.kENot2_2, DL.kENot_0, DL.kENot_1, DL.eNot_k, DL.kSl3_0, DL.kSl3_1, DL.kSl2_0, DL.kSl2_1, DL.kSl_0, DL.kSl_1, DL.eSl_k, DL.oNone_k, DL.kOS_0, DL.kOS_1, DL.oSome_k, DL.kKw2_0, DL.kKw2_1, DL.kKw_0, DL.kKw_1, DL.eKw_k, DL.truD_bl, DL.blD_bl, DL.addD_i, DL.subD_i, DL.ltI_i, DL.leI_i, DL.gtI_i, DL.geI_i, DL.negD_i, DL.intD_i, DL.intD_b, DL.max2D_i, DL.min2D_i, DL.gcdD_i, DL.lenD_t, DL.lenD_f, DL.isD_nn, DL.isD_in, DL.isD_tn, DL.isD_bn, DL.isD_sn, DL.isD_ib, DL.isD_tb, DL.isD_bb, DL.isD_sb, DL.isD_nb, DL.isnD_bb, DL.isi_i, DL.isi_b, DL.isi_t, DL.isi_s, DL.isi_n, DL.isTy_ii, DL.isTy_bi, DL.isTy_ib, DL.isTy_bb, DL.isTy_tt, DL.isTy_it, DL.isTy_bt, DL.isTy_ti, DL.isTy_is, DL.isTy_bs, DL.isTy_ss, DL.isTy_st, DL.isTy_nt, DL.isTy_ns, DL.isTy_ni, DL.isTy_ts, DL.isTy_si, DL.isTy_tb, DL.mulD_i, DL.modD_i, DL.fdivD_i, DL.powD_i, DL.tupD_k, DL.lstD_k, DL.fnD_k, DL.endR_rt, DL.endR_nx, DL.endR_ex, List.map_cons, List.map_nil, List.replicate_succ, List.replicate_zero, List.cons_append, List.nil_append, List.getElem?_cons_zero, List.getElem?_cons_succ, List.set_cons_zero, List.set_cons_succ, Nat.reduceSub, Nat.reduceAdd, List.length_cons, List.length_nil, List.any_cons, List.any_nil, Bool.or_false, Bool.or_true, Bool.not_true, Bool.not_false, Nat.reduceLeDiff, Bool.false_or, Bool.true_or, DL.trim_eq, DL.sFor_k, DL.kFor_0, DL.cSrc_k, DL.kSrc_0, DL.cApp_k, DL.kSrcA_0, DL.srcD_t, DL.srcD_f, DL.eqD_ii, DL.neD_ii, DL.ix_t0, DL.ix_t1, fdivD_i _ _ _ q0 (lt9000 M.b6 (by decide)), mulD_i _ _ _ mq, em, lw, wap_ok M, same8 (.tup [.int (x.1 / x.2), .tup [.int (x.1 % x.2), .int x.2]]) s1 (by simp [gd])]
theorem wrong_ok {s : Sto} {b g n : Nat} (B : Box s b g (n + 5)) : ∃ s', F__law_wrong_holds [.loc b] s = .ok (.bl true) s' := by
  obtain ⟨c, s1, e1, c0, c3, B1, F1⟩ := draw_ok (n := n + 4) (k := 3) B (by decide) (k9000 (by decide) (by decide))
  obtain ⟨t, s2, e2, t0, t1, B2, F2⟩ := draw_ok (n := n + 3) (k := 100) B1 (by decide) (k9000 (by decide) (by decide))
  obtain ⟨u, s3, e3, u0, u1, B3, F3⟩ := draw_ok (n := n + 2) (k := 99) B2 (by decide) (k9000 (by decide) (by decide))
  obtain ⟨p, q, s4, st, hpq, B4⟩ : ∃ (p q : Int) (s4 : Sto), sSeq S__law_wrong_holds_3 (sSeq S__law_wrong_holds_4 (sSeq S__law_wrong_holds_5 (sSeq S__law_wrong_holds_6 (sSeq S__law_wrong_holds_7 S__law_wrong_holds_8)))) [.d (.loc b), .d (.int c), .d (.int t), .d (.int (1 + u))] s3 = sSeq S__law_wrong_holds_5 (sSeq S__law_wrong_holds_6 (sSeq S__law_wrong_holds_7 S__law_wrong_holds_8)) [.d (.loc b), .d (.int c), .d (.int p), .d (.int q)] s4 ∧ (p < 0 ∨ q < 1) ∧ Box s4 b g (n + 1) := by
    by_cases h0 : c = 0
    · subst h0
      obtain ⟨v, s4, e4, v0, v1, B4, F4⟩ := draw_ok (n := n + 1) (k := 100) B3 (by decide) (k9000 (by decide) (by decide))
      refine ⟨t, 0 - v, s4, ?_, .inr (by omega), B4⟩
      rw [seq_nx (ρ' := [.d (.loc b), .d (.int 0), .d (.int t), .d (.int (1 + u))]) (s' := s3) (by simp only [S__law_wrong_holds_3, DL.kSeq_0, DL.kSeq_1, DL.kSeq_2, DL.kSeq_3, DL.kSeq_4, DL.sSeq_k, DL.sSkip_k, DL.sBreak_k, DL.sCont_k, DL.sRetN_k, DL.kExpr_0, DL.kExpr_1, DL.sExpr_k, DL.kRet_0, DL.kRet_1, DL.sRet_k, DL.kIf_0, DL.kIf_1, DL.kIf_2, DL.sIf_k, DL.kAsg2_0, DL.kAsg_0, DL.kAsg_1, DL.sAsg_k, DL.sSet_k, DL.gN_k, DL.gsN_k, DL.kG_0, DL.gsC_k, DL.gT_k, DL.kPut4_0, DL.kPut3_0, DL.kPut3_1, DL.kPut2_0, DL.kPut2_1, DL.kPut_0, DL.kPut_1, DL.sPut_k, DL.sPar_k, DL.kVar_0, DL.eVar_k, DL.eC_k, DL.kUn_0, DL.kUn_1, DL.eUn_k, DL.eIsi_k, DL.kBin2_0, DL.kBin2_1, DL.kBin_0, DL.kBin_1, DL.eBin_k, DL.aNil_k, DL.kCons2_0, DL.kCons2_1, DL.kCons_0, DL.kCons_1, DL.aCons_k, DL.kApp_0, DL.kApp_1, DL.eApp_k, DL.kMt2_0, DL.kMt2_1, DL.kMt1_0, DL.kMt_0, DL.kMt_1, DL.eMt_k, DL.kTru_0, DL.kTru_1, DL.tTru_k, DL.kAnd_0, DL.kAnd_1, DL.kAnd_2, DL.tAndF_k, DL.kOr_0, DL.kOr_1, DL.kOr_2, DL.tOrF_k, DL.kNot_0, DL.kNot_1, DL.kNot_2, DL.tNotF_k, DL.kEIf_0, DL.kEIf_1, DL.kEIf_2, DL.eIf_k, DL.kEAnd2_0, DL.kEAnd2_1, DL.kEAnd2_2, DL.kEAnd_0, DL.kEAnd_1, DL.eAnd_k, DL.kEOr2_0, DL.kEOr2_1, DL.kEOr2_2, DL.kEOr_0, DL.kEOr_1, DL.eOr_k, DL.kENot2_0, DL.kENot2_1, DL.kENot2_2, DL.kENot_0, DL.kENot_1, DL.eNot_k, DL.kSl3_0, DL.kSl3_1, DL.kSl2_0, DL.kSl2_1, DL.kSl_0, DL.kSl_1, DL.eSl_k, DL.oNone_k, DL.kOS_0, DL.kOS_1, DL.oSome_k, DL.kKw2_0, DL.kKw2_1, DL.kKw_0, DL.kKw_1, DL.eKw_k, DL.truD_bl, DL.blD_bl, DL.addD_i, DL.subD_i, DL.ltI_i, DL.leI_i, DL.gtI_i, DL.geI_i, DL.negD_i, DL.intD_i, DL.intD_b, DL.max2D_i, DL.min2D_i, DL.gcdD_i, DL.lenD_t, DL.lenD_f, DL.isD_nn, DL.isD_in, DL.isD_tn, DL.isD_bn, DL.isD_sn, DL.isD_ib, DL.isD_tb, DL.isD_bb, DL.isD_sb, DL.isD_nb, DL.isnD_bb, DL.isi_i, DL.isi_b, DL.isi_t, DL.isi_s, DL.isi_n, DL.isTy_ii, DL.isTy_bi, DL.isTy_ib, DL.isTy_bb, DL.isTy_tt, DL.isTy_it, DL.isTy_bt, DL.isTy_ti, DL.isTy_is, DL.isTy_bs, DL.isTy_ss, DL.isTy_st, DL.isTy_nt, DL.isTy_ns, DL.isTy_ni, DL.isTy_ts, DL.isTy_si, DL.isTy_tb, DL.mulD_i, DL.modD_i, DL.fdivD_i, DL.powD_i, DL.tupD_k, DL.lstD_k, DL.fnD_k, DL.endR_rt, DL.endR_nx, DL.endR_ex, List.map_cons, List.map_nil, List.replicate_succ, List.replicate_zero, List.cons_append, List.nil_append, List.getElem?_cons_zero, List.getElem?_cons_succ, List.set_cons_zero, List.set_cons_succ, Nat.reduceSub, Nat.reduceAdd, List.length_cons, List.length_nil, List.any_cons, List.any_nil, Bool.or_false, Bool.or_true, Bool.not_true, Bool.not_false, Nat.reduceLeDiff, Bool.false_or, Bool.true_or, DL.trim_eq, DL.sFor_k, DL.kFor_0, DL.cSrc_k, DL.kSrc_0, DL.cApp_k, DL.kSrcA_0, DL.srcD_t, DL.srcD_f, DL.eqD_ii, DL.neD_ii, DL.ix_t0, DL.ix_t1, beq_self_eq_true]),
        seq_nx (ρ' := [.d (.loc b), .d (.int 0), .d (.int t), .d (.int (0 - v))]) (s' := s4) (by simp only [S__law_wrong_holds_4, DL.kSeq_0, DL.kSeq_1, DL.kSeq_2, DL.kSeq_3, DL.kSeq_4, DL.sSeq_k, DL.sSkip_k, DL.sBreak_k, DL.sCont_k, DL.sRetN_k, DL.kExpr_0, DL.kExpr_1, DL.sExpr_k, DL.kRet_0, DL.kRet_1, DL.sRet_k, DL.kIf_0, DL.kIf_1, DL.kIf_2, DL.sIf_k, DL.kAsg2_0, DL.kAsg_0, DL.kAsg_1, DL.sAsg_k, DL.sSet_k, DL.gN_k, DL.gsN_k, DL.kG_0, DL.gsC_k, DL.gT_k, DL.kPut4_0, DL.kPut3_0, DL.kPut3_1, DL.kPut2_0, DL.kPut2_1, DL.kPut_0, DL.kPut_1, DL.sPut_k, DL.sPar_k, DL.kVar_0, DL.eVar_k, DL.eC_k, DL.kUn_0, DL.kUn_1, DL.eUn_k, DL.eIsi_k, DL.kBin2_0, DL.kBin2_1, DL.kBin_0, DL.kBin_1, DL.eBin_k, DL.aNil_k, DL.kCons2_0, DL.kCons2_1, DL.kCons_0, DL.kCons_1, DL.aCons_k, DL.kApp_0, DL.kApp_1, DL.eApp_k, DL.kMt2_0, DL.kMt2_1, DL.kMt1_0, DL.kMt_0, DL.kMt_1, DL.eMt_k, DL.kTru_0, DL.kTru_1, DL.tTru_k, DL.kAnd_0, DL.kAnd_1, DL.kAnd_2, DL.tAndF_k, DL.kOr_0, DL.kOr_1, DL.kOr_2, DL.tOrF_k, DL.kNot_0, DL.kNot_1, DL.kNot_2, DL.tNotF_k, DL.kEIf_0, DL.kEIf_1, DL.kEIf_2, DL.eIf_k, DL.kEAnd2_0, DL.kEAnd2_1, DL.kEAnd2_2, DL.kEAnd_0, DL.kEAnd_1, DL.eAnd_k, DL.kEOr2_0, DL.kEOr2_1, DL.kEOr2_2, DL.kEOr_0, DL.kEOr_1, DL.eOr_k, DL.kENot2_0, DL.kENot2_1, DL.kENot2_2, DL.kENot_0, DL.kENot_1, DL.eNot_k, DL.kSl3_0, DL.kSl3_1, DL.kSl2_0, DL.kSl2_1, DL.kSl_0, DL.kSl_1, DL.eSl_k, DL.oNone_k, DL.kOS_0, DL.kOS_1, DL.oSome_k, DL.kKw2_0, DL.kKw2_1, DL.kKw_0, DL.kKw_1, DL.eKw_k, DL.truD_bl, DL.blD_bl, DL.addD_i, DL.subD_i, DL.ltI_i, DL.leI_i, DL.gtI_i, DL.geI_i, DL.negD_i, DL.intD_i, DL.intD_b, DL.max2D_i, DL.min2D_i, DL.gcdD_i, DL.lenD_t, DL.lenD_f, DL.isD_nn, DL.isD_in, DL.isD_tn, DL.isD_bn, DL.isD_sn, DL.isD_ib, DL.isD_tb, DL.isD_bb, DL.isD_sb, DL.isD_nb, DL.isnD_bb, DL.isi_i, DL.isi_b, DL.isi_t, DL.isi_s, DL.isi_n, DL.isTy_ii, DL.isTy_bi, DL.isTy_ib, DL.isTy_bb, DL.isTy_tt, DL.isTy_it, DL.isTy_bt, DL.isTy_ti, DL.isTy_is, DL.isTy_bs, DL.isTy_ss, DL.isTy_st, DL.isTy_nt, DL.isTy_ns, DL.isTy_ni, DL.isTy_ts, DL.isTy_si, DL.isTy_tb, DL.mulD_i, DL.modD_i, DL.fdivD_i, DL.powD_i, DL.tupD_k, DL.lstD_k, DL.fnD_k, DL.endR_rt, DL.endR_nx, DL.endR_ex, List.map_cons, List.map_nil, List.replicate_succ, List.replicate_zero, List.cons_append, List.nil_append, List.getElem?_cons_zero, List.getElem?_cons_succ, List.set_cons_zero, List.set_cons_succ, Nat.reduceSub, Nat.reduceAdd, List.length_cons, List.length_nil, List.any_cons, List.any_nil, Bool.or_false, Bool.or_true, Bool.not_true, Bool.not_false, Nat.reduceLeDiff, Bool.false_or, Bool.true_or, DL.trim_eq, DL.sFor_k, DL.kFor_0, DL.cSrc_k, DL.kSrc_0, DL.cApp_k, DL.kSrcA_0, DL.srcD_t, DL.srcD_f, DL.eqD_ii, DL.neD_ii, DL.ix_t0, DL.ix_t1, show ((0 : Int) == 1) = false from rfl, e4])]
    · have b0 : (c == 0) = false := beq_eq_false_iff_ne.mpr h0
      by_cases h1 : c = 1
      · subst h1
        refine ⟨0 - (1 + u), 1 + u, s3, ?_, .inl (by omega), B3.mono (by omega)⟩
        rw [seq_nx (ρ' := [.d (.loc b), .d (.int 1), .d (.int (0 - (1 + u))), .d (.int (1 + u))]) (s' := s3) (by simp only [S__law_wrong_holds_3, DL.kSeq_0, DL.kSeq_1, DL.kSeq_2, DL.kSeq_3, DL.kSeq_4, DL.sSeq_k, DL.sSkip_k, DL.sBreak_k, DL.sCont_k, DL.sRetN_k, DL.kExpr_0, DL.kExpr_1, DL.sExpr_k, DL.kRet_0, DL.kRet_1, DL.sRet_k, DL.kIf_0, DL.kIf_1, DL.kIf_2, DL.sIf_k, DL.kAsg2_0, DL.kAsg_0, DL.kAsg_1, DL.sAsg_k, DL.sSet_k, DL.gN_k, DL.gsN_k, DL.kG_0, DL.gsC_k, DL.gT_k, DL.kPut4_0, DL.kPut3_0, DL.kPut3_1, DL.kPut2_0, DL.kPut2_1, DL.kPut_0, DL.kPut_1, DL.sPut_k, DL.sPar_k, DL.kVar_0, DL.eVar_k, DL.eC_k, DL.kUn_0, DL.kUn_1, DL.eUn_k, DL.eIsi_k, DL.kBin2_0, DL.kBin2_1, DL.kBin_0, DL.kBin_1, DL.eBin_k, DL.aNil_k, DL.kCons2_0, DL.kCons2_1, DL.kCons_0, DL.kCons_1, DL.aCons_k, DL.kApp_0, DL.kApp_1, DL.eApp_k, DL.kMt2_0, DL.kMt2_1, DL.kMt1_0, DL.kMt_0, DL.kMt_1, DL.eMt_k, DL.kTru_0, DL.kTru_1, DL.tTru_k, DL.kAnd_0, DL.kAnd_1, DL.kAnd_2, DL.tAndF_k, DL.kOr_0, DL.kOr_1, DL.kOr_2, DL.tOrF_k, DL.kNot_0, DL.kNot_1, DL.kNot_2, DL.tNotF_k, DL.kEIf_0, DL.kEIf_1, DL.kEIf_2, DL.eIf_k, DL.kEAnd2_0, DL.kEAnd2_1, DL.kEAnd2_2, DL.kEAnd_0, DL.kEAnd_1, DL.eAnd_k, DL.kEOr2_0, DL.kEOr2_1, DL.kEOr2_2, DL.kEOr_0, DL.kEOr_1, DL.eOr_k, DL.kENot2_0, DL.kENot2_1, DL.kENot2_2, DL.kENot_0, DL.kENot_1, DL.eNot_k, DL.kSl3_0, DL.kSl3_1, DL.kSl2_0, DL.kSl2_1, DL.kSl_0, DL.kSl_1, DL.eSl_k, DL.oNone_k, DL.kOS_0, DL.kOS_1, DL.oSome_k, DL.kKw2_0, DL.kKw2_1, DL.kKw_0, DL.kKw_1, DL.eKw_k, DL.truD_bl, DL.blD_bl, DL.addD_i, DL.subD_i, DL.ltI_i, DL.leI_i, DL.gtI_i, DL.geI_i, DL.negD_i, DL.intD_i, DL.intD_b, DL.max2D_i, DL.min2D_i, DL.gcdD_i, DL.lenD_t, DL.lenD_f, DL.isD_nn, DL.isD_in, DL.isD_tn, DL.isD_bn, DL.isD_sn, DL.isD_ib, DL.isD_tb, DL.isD_bb, DL.isD_sb, DL.isD_nb, DL.isnD_bb, DL.isi_i, DL.isi_b, DL.isi_t, DL.isi_s, DL.isi_n, DL.isTy_ii, DL.isTy_bi, DL.isTy_ib, DL.isTy_bb, DL.isTy_tt, DL.isTy_it, DL.isTy_bt, DL.isTy_ti, DL.isTy_is, DL.isTy_bs, DL.isTy_ss, DL.isTy_st, DL.isTy_nt, DL.isTy_ns, DL.isTy_ni, DL.isTy_ts, DL.isTy_si, DL.isTy_tb, DL.mulD_i, DL.modD_i, DL.fdivD_i, DL.powD_i, DL.tupD_k, DL.lstD_k, DL.fnD_k, DL.endR_rt, DL.endR_nx, DL.endR_ex, List.map_cons, List.map_nil, List.replicate_succ, List.replicate_zero, List.cons_append, List.nil_append, List.getElem?_cons_zero, List.getElem?_cons_succ, List.set_cons_zero, List.set_cons_succ, Nat.reduceSub, Nat.reduceAdd, List.length_cons, List.length_nil, List.any_cons, List.any_nil, Bool.or_false, Bool.or_true, Bool.not_true, Bool.not_false, Nat.reduceLeDiff, Bool.false_or, Bool.true_or, DL.trim_eq, DL.sFor_k, DL.kFor_0, DL.cSrc_k, DL.kSrc_0, DL.cApp_k, DL.kSrcA_0, DL.srcD_t, DL.srcD_f, DL.eqD_ii, DL.neD_ii, DL.ix_t0, DL.ix_t1, show ((1 : Int) == 0) = false from rfl]),
          seq_nx (ρ' := [.d (.loc b), .d (.int 1), .d (.int (0 - (1 + u))), .d (.int (1 + u))]) (s' := s3) (by simp only [S__law_wrong_holds_4, DL.kSeq_0, DL.kSeq_1, DL.kSeq_2, DL.kSeq_3, DL.kSeq_4, DL.sSeq_k, DL.sSkip_k, DL.sBreak_k, DL.sCont_k, DL.sRetN_k, DL.kExpr_0, DL.kExpr_1, DL.sExpr_k, DL.kRet_0, DL.kRet_1, DL.sRet_k, DL.kIf_0, DL.kIf_1, DL.kIf_2, DL.sIf_k, DL.kAsg2_0, DL.kAsg_0, DL.kAsg_1, DL.sAsg_k, DL.sSet_k, DL.gN_k, DL.gsN_k, DL.kG_0, DL.gsC_k, DL.gT_k, DL.kPut4_0, DL.kPut3_0, DL.kPut3_1, DL.kPut2_0, DL.kPut2_1, DL.kPut_0, DL.kPut_1, DL.sPut_k, DL.sPar_k, DL.kVar_0, DL.eVar_k, DL.eC_k, DL.kUn_0, DL.kUn_1, DL.eUn_k, DL.eIsi_k, DL.kBin2_0, DL.kBin2_1, DL.kBin_0, DL.kBin_1, DL.eBin_k, DL.aNil_k, DL.kCons2_0, DL.kCons2_1, DL.kCons_0, DL.kCons_1, DL.aCons_k, DL.kApp_0, DL.kApp_1, DL.eApp_k, DL.kMt2_0, DL.kMt2_1, DL.kMt1_0, DL.kMt_0, DL.kMt_1, DL.eMt_k, DL.kTru_0, DL.kTru_1, DL.tTru_k, DL.kAnd_0, DL.kAnd_1, DL.kAnd_2, DL.tAndF_k, DL.kOr_0, DL.kOr_1, DL.kOr_2, DL.tOrF_k, DL.kNot_0, DL.kNot_1, DL.kNot_2, DL.tNotF_k, DL.kEIf_0, DL.kEIf_1, DL.kEIf_2, DL.eIf_k, DL.kEAnd2_0, DL.kEAnd2_1, DL.kEAnd2_2, DL.kEAnd_0, DL.kEAnd_1, DL.eAnd_k, DL.kEOr2_0, DL.kEOr2_1, DL.kEOr2_2, DL.kEOr_0, DL.kEOr_1, DL.eOr_k, DL.kENot2_0, DL.kENot2_1, DL.kENot2_2, DL.kENot_0, DL.kENot_1, DL.eNot_k, DL.kSl3_0, DL.kSl3_1, DL.kSl2_0, DL.kSl2_1, DL.kSl_0, DL.kSl_1, DL.eSl_k, DL.oNone_k, DL.kOS_0, DL.kOS_1, DL.oSome_k, DL.kKw2_0, DL.kKw2_1, DL.kKw_0, DL.kKw_1, DL.eKw_k, DL.truD_bl, DL.blD_bl, DL.addD_i, DL.subD_i, DL.ltI_i, DL.leI_i, DL.gtI_i, DL.geI_i, DL.negD_i, DL.intD_i, DL.intD_b, DL.max2D_i, DL.min2D_i, DL.gcdD_i, DL.lenD_t, DL.lenD_f, DL.isD_nn, DL.isD_in, DL.isD_tn, DL.isD_bn, DL.isD_sn, DL.isD_ib, DL.isD_tb, DL.isD_bb, DL.isD_sb, DL.isD_nb, DL.isnD_bb, DL.isi_i, DL.isi_b, DL.isi_t, DL.isi_s, DL.isi_n, DL.isTy_ii, DL.isTy_bi, DL.isTy_ib, DL.isTy_bb, DL.isTy_tt, DL.isTy_it, DL.isTy_bt, DL.isTy_ti, DL.isTy_is, DL.isTy_bs, DL.isTy_ss, DL.isTy_st, DL.isTy_nt, DL.isTy_ns, DL.isTy_ni, DL.isTy_ts, DL.isTy_si, DL.isTy_tb, DL.mulD_i, DL.modD_i, DL.fdivD_i, DL.powD_i, DL.tupD_k, DL.lstD_k, DL.fnD_k, DL.endR_rt, DL.endR_nx, DL.endR_ex, List.map_cons, List.map_nil, List.replicate_succ, List.replicate_zero, List.cons_append, List.nil_append, List.getElem?_cons_zero, List.getElem?_cons_succ, List.set_cons_zero, List.set_cons_succ, Nat.reduceSub, Nat.reduceAdd, List.length_cons, List.length_nil, List.any_cons, List.any_nil, Bool.or_false, Bool.or_true, Bool.not_true, Bool.not_false, Nat.reduceLeDiff, Bool.false_or, Bool.true_or, DL.trim_eq, DL.sFor_k, DL.kFor_0, DL.cSrc_k, DL.kSrc_0, DL.cApp_k, DL.kSrcA_0, DL.srcD_t, DL.srcD_f, DL.eqD_ii, DL.neD_ii, DL.ix_t0, DL.ix_t1, beq_self_eq_true])]
      · have b1 : (c == 1) = false := beq_eq_false_iff_ne.mpr h1
        obtain ⟨v, s4, e4, v0, v1, B4, F4⟩ := draw_ok (n := n + 1) (k := 100) B3 (by decide) (k9000 (by decide) (by decide))
        refine ⟨0 - (1 + u), 0 - v, s4, ?_, .inl (by omega), B4⟩
        rw [seq_nx (ρ' := [.d (.loc b), .d (.int c), .d (.int (0 - (1 + u))), .d (.int (1 + u))]) (s' := s3) (by simp only [S__law_wrong_holds_3, DL.kSeq_0, DL.kSeq_1, DL.kSeq_2, DL.kSeq_3, DL.kSeq_4, DL.sSeq_k, DL.sSkip_k, DL.sBreak_k, DL.sCont_k, DL.sRetN_k, DL.kExpr_0, DL.kExpr_1, DL.sExpr_k, DL.kRet_0, DL.kRet_1, DL.sRet_k, DL.kIf_0, DL.kIf_1, DL.kIf_2, DL.sIf_k, DL.kAsg2_0, DL.kAsg_0, DL.kAsg_1, DL.sAsg_k, DL.sSet_k, DL.gN_k, DL.gsN_k, DL.kG_0, DL.gsC_k, DL.gT_k, DL.kPut4_0, DL.kPut3_0, DL.kPut3_1, DL.kPut2_0, DL.kPut2_1, DL.kPut_0, DL.kPut_1, DL.sPut_k, DL.sPar_k, DL.kVar_0, DL.eVar_k, DL.eC_k, DL.kUn_0, DL.kUn_1, DL.eUn_k, DL.eIsi_k, DL.kBin2_0, DL.kBin2_1, DL.kBin_0, DL.kBin_1, DL.eBin_k, DL.aNil_k, DL.kCons2_0, DL.kCons2_1, DL.kCons_0, DL.kCons_1, DL.aCons_k, DL.kApp_0, DL.kApp_1, DL.eApp_k, DL.kMt2_0, DL.kMt2_1, DL.kMt1_0, DL.kMt_0, DL.kMt_1, DL.eMt_k, DL.kTru_0, DL.kTru_1, DL.tTru_k, DL.kAnd_0, DL.kAnd_1, DL.kAnd_2, DL.tAndF_k, DL.kOr_0, DL.kOr_1, DL.kOr_2, DL.tOrF_k, DL.kNot_0, DL.kNot_1, DL.kNot_2, DL.tNotF_k, DL.kEIf_0, DL.kEIf_1, DL.kEIf_2, DL.eIf_k, DL.kEAnd2_0, DL.kEAnd2_1, DL.kEAnd2_2, DL.kEAnd_0, DL.kEAnd_1, DL.eAnd_k, DL.kEOr2_0, DL.kEOr2_1, DL.kEOr2_2, DL.kEOr_0, DL.kEOr_1, DL.eOr_k, DL.kENot2_0, DL.kENot2_1, DL.kENot2_2, DL.kENot_0, DL.kENot_1, DL.eNot_k, DL.kSl3_0, DL.kSl3_1, DL.kSl2_0, DL.kSl2_1, DL.kSl_0, DL.kSl_1, DL.eSl_k, DL.oNone_k, DL.kOS_0, DL.kOS_1, DL.oSome_k, DL.kKw2_0, DL.kKw2_1, DL.kKw_0, DL.kKw_1, DL.eKw_k, DL.truD_bl, DL.blD_bl, DL.addD_i, DL.subD_i, DL.ltI_i, DL.leI_i, DL.gtI_i, DL.geI_i, DL.negD_i, DL.intD_i, DL.intD_b, DL.max2D_i, DL.min2D_i, DL.gcdD_i, DL.lenD_t, DL.lenD_f, DL.isD_nn, DL.isD_in, DL.isD_tn, DL.isD_bn, DL.isD_sn, DL.isD_ib, DL.isD_tb, DL.isD_bb, DL.isD_sb, DL.isD_nb, DL.isnD_bb, DL.isi_i, DL.isi_b, DL.isi_t, DL.isi_s, DL.isi_n, DL.isTy_ii, DL.isTy_bi, DL.isTy_ib, DL.isTy_bb, DL.isTy_tt, DL.isTy_it, DL.isTy_bt, DL.isTy_ti, DL.isTy_is, DL.isTy_bs, DL.isTy_ss, DL.isTy_st, DL.isTy_nt, DL.isTy_ns, DL.isTy_ni, DL.isTy_ts, DL.isTy_si, DL.isTy_tb, DL.mulD_i, DL.modD_i, DL.fdivD_i, DL.powD_i, DL.tupD_k, DL.lstD_k, DL.fnD_k, DL.endR_rt, DL.endR_nx, DL.endR_ex, List.map_cons, List.map_nil, List.replicate_succ, List.replicate_zero, List.cons_append, List.nil_append, List.getElem?_cons_zero, List.getElem?_cons_succ, List.set_cons_zero, List.set_cons_succ, Nat.reduceSub, Nat.reduceAdd, List.length_cons, List.length_nil, List.any_cons, List.any_nil, Bool.or_false, Bool.or_true, Bool.not_true, Bool.not_false, Nat.reduceLeDiff, Bool.false_or, Bool.true_or, DL.trim_eq, DL.sFor_k, DL.kFor_0, DL.cSrc_k, DL.kSrc_0, DL.cApp_k, DL.kSrcA_0, DL.srcD_t, DL.srcD_f, DL.eqD_ii, DL.neD_ii, DL.ix_t0, DL.ix_t1, b0]),
          seq_nx (ρ' := [.d (.loc b), .d (.int c), .d (.int (0 - (1 + u))), .d (.int (0 - v))]) (s' := s4) (by simp only [S__law_wrong_holds_4, DL.kSeq_0, DL.kSeq_1, DL.kSeq_2, DL.kSeq_3, DL.kSeq_4, DL.sSeq_k, DL.sSkip_k, DL.sBreak_k, DL.sCont_k, DL.sRetN_k, DL.kExpr_0, DL.kExpr_1, DL.sExpr_k, DL.kRet_0, DL.kRet_1, DL.sRet_k, DL.kIf_0, DL.kIf_1, DL.kIf_2, DL.sIf_k, DL.kAsg2_0, DL.kAsg_0, DL.kAsg_1, DL.sAsg_k, DL.sSet_k, DL.gN_k, DL.gsN_k, DL.kG_0, DL.gsC_k, DL.gT_k, DL.kPut4_0, DL.kPut3_0, DL.kPut3_1, DL.kPut2_0, DL.kPut2_1, DL.kPut_0, DL.kPut_1, DL.sPut_k, DL.sPar_k, DL.kVar_0, DL.eVar_k, DL.eC_k, DL.kUn_0, DL.kUn_1, DL.eUn_k, DL.eIsi_k, DL.kBin2_0, DL.kBin2_1, DL.kBin_0, DL.kBin_1, DL.eBin_k, DL.aNil_k, DL.kCons2_0, DL.kCons2_1, DL.kCons_0, DL.kCons_1, DL.aCons_k, DL.kApp_0, DL.kApp_1, DL.eApp_k, DL.kMt2_0, DL.kMt2_1, DL.kMt1_0, DL.kMt_0, DL.kMt_1, DL.eMt_k, DL.kTru_0, DL.kTru_1, DL.tTru_k, DL.kAnd_0, DL.kAnd_1, DL.kAnd_2, DL.tAndF_k, DL.kOr_0, DL.kOr_1, DL.kOr_2, DL.tOrF_k, DL.kNot_0, DL.kNot_1, DL.kNot_2, DL.tNotF_k, DL.kEIf_0, DL.kEIf_1, DL.kEIf_2, DL.eIf_k, DL.kEAnd2_0, DL.kEAnd2_1, DL.kEAnd2_2, DL.kEAnd_0, DL.kEAnd_1, DL.eAnd_k, DL.kEOr2_0, DL.kEOr2_1, DL.kEOr2_2, DL.kEOr_0, DL.kEOr_1, DL.eOr_k, DL.kENot2_0, DL.kENot2_1, DL.kENot2_2, DL.kENot_0, DL.kENot_1, DL.eNot_k, DL.kSl3_0, DL.kSl3_1, DL.kSl2_0, DL.kSl2_1, DL.kSl_0, DL.kSl_1, DL.eSl_k, DL.oNone_k, DL.kOS_0, DL.kOS_1, DL.oSome_k, DL.kKw2_0, DL.kKw2_1, DL.kKw_0, DL.kKw_1, DL.eKw_k, DL.truD_bl, DL.blD_bl, DL.addD_i, DL.subD_i, DL.ltI_i, DL.leI_i, DL.gtI_i, DL.geI_i, DL.negD_i, DL.intD_i, DL.intD_b, DL.max2D_i, DL.min2D_i, DL.gcdD_i, DL.lenD_t, DL.lenD_f, DL.isD_nn, DL.isD_in, DL.isD_tn, DL.isD_bn, DL.isD_sn, DL.isD_ib, DL.isD_tb, DL.isD_bb, DL.isD_sb, DL.isD_nb, DL.isnD_bb, DL.isi_i, DL.isi_b, DL.isi_t, DL.isi_s, DL.isi_n, DL.isTy_ii, DL.isTy_bi, DL.isTy_ib, DL.isTy_bb, DL.isTy_tt, DL.isTy_it, DL.isTy_bt, DL.isTy_ti, DL.isTy_is, DL.isTy_bs, DL.isTy_ss, DL.isTy_st, DL.isTy_nt, DL.isTy_ns, DL.isTy_ni, DL.isTy_ts, DL.isTy_si, DL.isTy_tb, DL.mulD_i, DL.modD_i, DL.fdivD_i, DL.powD_i, DL.tupD_k, DL.lstD_k, DL.fnD_k, DL.endR_rt, DL.endR_nx, DL.endR_ex, List.map_cons, List.map_nil, List.replicate_succ, List.replicate_zero, List.cons_append, List.nil_append, List.getElem?_cons_zero, List.getElem?_cons_succ, List.set_cons_zero, List.set_cons_succ, Nat.reduceSub, Nat.reduceAdd, List.length_cons, List.length_nil, List.any_cons, List.any_nil, Bool.or_false, Bool.or_true, Bool.not_true, Bool.not_false, Nat.reduceLeDiff, Bool.false_or, Bool.true_or, DL.trim_eq, DL.sFor_k, DL.kFor_0, DL.cSrc_k, DL.kSrc_0, DL.cApp_k, DL.kSrcA_0, DL.srcD_t, DL.srcD_f, DL.eqD_ii, DL.neD_ii, DL.ix_t0, DL.ix_t1, b1, e4])]
  have im : F_is_moment [.tup [.int p, .int q]] s4 = .ok (.bl false) s4 := by
    rw [is_moment_t]
    rcases hpq with h | h
    · rw [decide_eq_false (by omega), Bool.false_and]
    · rw [decide_eq_false (show ¬ 1 ≤ q by omega), Bool.false_and, Bool.and_false]
  obtain ⟨v, s5, e5, v0, v1, B5, F5⟩ := draw_ok (n := n) (k := 99) B4 (by decide) (k9000 (by decide) (by decide))
  have neg : (0 - 1 - v : Int) < 0 := by omega
  have e : B__law_wrong_holds [.d (.loc b), .un, .un, .un] s = .rt (.bl true) s5 := by
    unfold B__law_wrong_holds
    rw [seq_nx (ρ' := [.d (.loc b), .d (.int c), .un, .un]) (s' := s1) (by simp only [S__law_wrong_holds_0, DL.kSeq_0, DL.kSeq_1, DL.kSeq_2, DL.kSeq_3, DL.kSeq_4, DL.sSeq_k, DL.sSkip_k, DL.sBreak_k, DL.sCont_k, DL.sRetN_k, DL.kExpr_0, DL.kExpr_1, DL.sExpr_k, DL.kRet_0, DL.kRet_1, DL.sRet_k, DL.kIf_0, DL.kIf_1, DL.kIf_2, DL.sIf_k, DL.kAsg2_0, DL.kAsg_0, DL.kAsg_1, DL.sAsg_k, DL.sSet_k, DL.gN_k, DL.gsN_k, DL.kG_0, DL.gsC_k, DL.gT_k, DL.kPut4_0, DL.kPut3_0, DL.kPut3_1, DL.kPut2_0, DL.kPut2_1, DL.kPut_0, DL.kPut_1, DL.sPut_k, DL.sPar_k, DL.kVar_0, DL.eVar_k, DL.eC_k, DL.kUn_0, DL.kUn_1, DL.eUn_k, DL.eIsi_k, DL.kBin2_0, DL.kBin2_1, DL.kBin_0, DL.kBin_1, DL.eBin_k, DL.aNil_k, DL.kCons2_0, DL.kCons2_1, DL.kCons_0, DL.kCons_1, DL.aCons_k, DL.kApp_0, DL.kApp_1, DL.eApp_k, DL.kMt2_0, DL.kMt2_1, DL.kMt1_0, DL.kMt_0, DL.kMt_1, DL.eMt_k, DL.kTru_0, DL.kTru_1, DL.tTru_k, DL.kAnd_0, DL.kAnd_1, DL.kAnd_2, DL.tAndF_k, DL.kOr_0, DL.kOr_1, DL.kOr_2, DL.tOrF_k, DL.kNot_0, DL.kNot_1, DL.kNot_2, DL.tNotF_k, DL.kEIf_0, DL.kEIf_1, DL.kEIf_2, DL.eIf_k, DL.kEAnd2_0, DL.kEAnd2_1, DL.kEAnd2_2, DL.kEAnd_0, DL.kEAnd_1, DL.eAnd_k, DL.kEOr2_0, DL.kEOr2_1, DL.kEOr2_2, DL.kEOr_0, DL.kEOr_1, DL.eOr_k, DL.kENot2_0, DL.kENot2_1, DL.kENot2_2, DL.kENot_0, DL.kENot_1, DL.eNot_k, DL.kSl3_0, DL.kSl3_1, DL.kSl2_0, DL.kSl2_1, DL.kSl_0, DL.kSl_1, DL.eSl_k, DL.oNone_k, DL.kOS_0, DL.kOS_1, DL.oSome_k, DL.kKw2_0, DL.kKw2_1, DL.kKw_0, DL.kKw_1, DL.eKw_k, DL.truD_bl, DL.blD_bl, DL.addD_i, DL.subD_i, DL.ltI_i, DL.leI_i, DL.gtI_i, DL.geI_i, DL.negD_i, DL.intD_i, DL.intD_b, DL.max2D_i, DL.min2D_i, DL.gcdD_i, DL.lenD_t, DL.lenD_f, DL.isD_nn, DL.isD_in, DL.isD_tn, DL.isD_bn, DL.isD_sn, DL.isD_ib, DL.isD_tb, DL.isD_bb, DL.isD_sb, DL.isD_nb, DL.isnD_bb, DL.isi_i, DL.isi_b, DL.isi_t, DL.isi_s, DL.isi_n, DL.isTy_ii, DL.isTy_bi, DL.isTy_ib, DL.isTy_bb, DL.isTy_tt, DL.isTy_it, DL.isTy_bt, DL.isTy_ti, DL.isTy_is, DL.isTy_bs, DL.isTy_ss, DL.isTy_st, DL.isTy_nt, DL.isTy_ns, DL.isTy_ni, DL.isTy_ts, DL.isTy_si, DL.isTy_tb, DL.mulD_i, DL.modD_i, DL.fdivD_i, DL.powD_i, DL.tupD_k, DL.lstD_k, DL.fnD_k, DL.endR_rt, DL.endR_nx, DL.endR_ex, List.map_cons, List.map_nil, List.replicate_succ, List.replicate_zero, List.cons_append, List.nil_append, List.getElem?_cons_zero, List.getElem?_cons_succ, List.set_cons_zero, List.set_cons_succ, Nat.reduceSub, Nat.reduceAdd, List.length_cons, List.length_nil, List.any_cons, List.any_nil, Bool.or_false, Bool.or_true, Bool.not_true, Bool.not_false, Nat.reduceLeDiff, Bool.false_or, Bool.true_or, DL.trim_eq, DL.sFor_k, DL.kFor_0, DL.cSrc_k, DL.kSrc_0, DL.cApp_k, DL.kSrcA_0, DL.srcD_t, DL.srcD_f, DL.eqD_ii, DL.neD_ii, DL.ix_t0, DL.ix_t1, e1]),
      seq_nx (ρ' := [.d (.loc b), .d (.int c), .d (.int t), .un]) (s' := s2) (by simp only [S__law_wrong_holds_1, DL.kSeq_0, DL.kSeq_1, DL.kSeq_2, DL.kSeq_3, DL.kSeq_4, DL.sSeq_k, DL.sSkip_k, DL.sBreak_k, DL.sCont_k, DL.sRetN_k, DL.kExpr_0, DL.kExpr_1, DL.sExpr_k, DL.kRet_0, DL.kRet_1, DL.sRet_k, DL.kIf_0, DL.kIf_1, DL.kIf_2, DL.sIf_k, DL.kAsg2_0, DL.kAsg_0, DL.kAsg_1, DL.sAsg_k, DL.sSet_k, DL.gN_k, DL.gsN_k, DL.kG_0, DL.gsC_k, DL.gT_k, DL.kPut4_0, DL.kPut3_0, DL.kPut3_1, DL.kPut2_0, DL.kPut2_1, DL.kPut_0, DL.kPut_1, DL.sPut_k, DL.sPar_k, DL.kVar_0, DL.eVar_k, DL.eC_k, DL.kUn_0, DL.kUn_1, DL.eUn_k, DL.eIsi_k, DL.kBin2_0, DL.kBin2_1, DL.kBin_0, DL.kBin_1, DL.eBin_k, DL.aNil_k, DL.kCons2_0, DL.kCons2_1, DL.kCons_0, DL.kCons_1, DL.aCons_k, DL.kApp_0, DL.kApp_1, DL.eApp_k, DL.kMt2_0, DL.kMt2_1, DL.kMt1_0, DL.kMt_0, DL.kMt_1, DL.eMt_k, DL.kTru_0, DL.kTru_1, DL.tTru_k, DL.kAnd_0, DL.kAnd_1, DL.kAnd_2, DL.tAndF_k, DL.kOr_0, DL.kOr_1, DL.kOr_2, DL.tOrF_k, DL.kNot_0, DL.kNot_1, DL.kNot_2, DL.tNotF_k, DL.kEIf_0, DL.kEIf_1, DL.kEIf_2, DL.eIf_k, DL.kEAnd2_0, DL.kEAnd2_1, DL.kEAnd2_2, DL.kEAnd_0, DL.kEAnd_1, DL.eAnd_k, DL.kEOr2_0, DL.kEOr2_1, DL.kEOr2_2, DL.kEOr_0, DL.kEOr_1, DL.eOr_k, DL.kENot2_0, DL.kENot2_1, DL.kENot2_2, DL.kENot_0, DL.kENot_1, DL.eNot_k, DL.kSl3_0, DL.kSl3_1, DL.kSl2_0, DL.kSl2_1, DL.kSl_0, DL.kSl_1, DL.eSl_k, DL.oNone_k, DL.kOS_0, DL.kOS_1, DL.oSome_k, DL.kKw2_0, DL.kKw2_1, DL.kKw_0, DL.kKw_1, DL.eKw_k, DL.truD_bl, DL.blD_bl, DL.addD_i, DL.subD_i, DL.ltI_i, DL.leI_i, DL.gtI_i, DL.geI_i, DL.negD_i, DL.intD_i, DL.intD_b, DL.max2D_i, DL.min2D_i, DL.gcdD_i, DL.lenD_t, DL.lenD_f, DL.isD_nn, DL.isD_in, DL.isD_tn, DL.isD_bn, DL.isD_sn, DL.isD_ib, DL.isD_tb, DL.isD_bb, DL.isD_sb, DL.isD_nb, DL.isnD_bb, DL.isi_i, DL.isi_b, DL.isi_t, DL.isi_s, DL.isi_n, DL.isTy_ii, DL.isTy_bi, DL.isTy_ib, DL.isTy_bb, DL.isTy_tt, DL.isTy_it, DL.isTy_bt, DL.isTy_ti, DL.isTy_is, DL.isTy_bs, DL.isTy_ss, DL.isTy_st, DL.isTy_nt, DL.isTy_ns, DL.isTy_ni, DL.isTy_ts, DL.isTy_si, DL.isTy_tb, DL.mulD_i, DL.modD_i, DL.fdivD_i, DL.powD_i, DL.tupD_k, DL.lstD_k, DL.fnD_k, DL.endR_rt, DL.endR_nx, DL.endR_ex, List.map_cons, List.map_nil, List.replicate_succ, List.replicate_zero, List.cons_append, List.nil_append, List.getElem?_cons_zero, List.getElem?_cons_succ, List.set_cons_zero, List.set_cons_succ, Nat.reduceSub, Nat.reduceAdd, List.length_cons, List.length_nil, List.any_cons, List.any_nil, Bool.or_false, Bool.or_true, Bool.not_true, Bool.not_false, Nat.reduceLeDiff, Bool.false_or, Bool.true_or, DL.trim_eq, DL.sFor_k, DL.kFor_0, DL.cSrc_k, DL.kSrc_0, DL.cApp_k, DL.kSrcA_0, DL.srcD_t, DL.srcD_f, DL.eqD_ii, DL.neD_ii, DL.ix_t0, DL.ix_t1, e2]),
      seq_nx (ρ' := [.d (.loc b), .d (.int c), .d (.int t), .d (.int (1 + u))]) (s' := s3) (by simp only [S__law_wrong_holds_2, DL.kSeq_0, DL.kSeq_1, DL.kSeq_2, DL.kSeq_3, DL.kSeq_4, DL.sSeq_k, DL.sSkip_k, DL.sBreak_k, DL.sCont_k, DL.sRetN_k, DL.kExpr_0, DL.kExpr_1, DL.sExpr_k, DL.kRet_0, DL.kRet_1, DL.sRet_k, DL.kIf_0, DL.kIf_1, DL.kIf_2, DL.sIf_k, DL.kAsg2_0, DL.kAsg_0, DL.kAsg_1, DL.sAsg_k, DL.sSet_k, DL.gN_k, DL.gsN_k, DL.kG_0, DL.gsC_k, DL.gT_k, DL.kPut4_0, DL.kPut3_0, DL.kPut3_1, DL.kPut2_0, DL.kPut2_1, DL.kPut_0, DL.kPut_1, DL.sPut_k, DL.sPar_k, DL.kVar_0, DL.eVar_k, DL.eC_k, DL.kUn_0, DL.kUn_1, DL.eUn_k, DL.eIsi_k, DL.kBin2_0, DL.kBin2_1, DL.kBin_0, DL.kBin_1, DL.eBin_k, DL.aNil_k, DL.kCons2_0, DL.kCons2_1, DL.kCons_0, DL.kCons_1, DL.aCons_k, DL.kApp_0, DL.kApp_1, DL.eApp_k, DL.kMt2_0, DL.kMt2_1, DL.kMt1_0, DL.kMt_0, DL.kMt_1, DL.eMt_k, DL.kTru_0, DL.kTru_1, DL.tTru_k, DL.kAnd_0, DL.kAnd_1, DL.kAnd_2, DL.tAndF_k, DL.kOr_0, DL.kOr_1, DL.kOr_2, DL.tOrF_k, DL.kNot_0, DL.kNot_1, DL.kNot_2, DL.tNotF_k, DL.kEIf_0, DL.kEIf_1, DL.kEIf_2, DL.eIf_k, DL.kEAnd2_0, DL.kEAnd2_1, DL.kEAnd2_2, DL.kEAnd_0, DL.kEAnd_1, DL.eAnd_k, DL.kEOr2_0, DL.kEOr2_1, DL.kEOr2_2, DL.kEOr_0, DL.kEOr_1, DL.eOr_k, DL.kENot2_0, DL.kENot2_1, DL.kENot2_2, DL.kENot_0, DL.kENot_1, DL.eNot_k, DL.kSl3_0, DL.kSl3_1, DL.kSl2_0, DL.kSl2_1, DL.kSl_0, DL.kSl_1, DL.eSl_k, DL.oNone_k, DL.kOS_0, DL.kOS_1, DL.oSome_k, DL.kKw2_0, DL.kKw2_1, DL.kKw_0, DL.kKw_1, DL.eKw_k, DL.truD_bl, DL.blD_bl, DL.addD_i, DL.subD_i, DL.ltI_i, DL.leI_i, DL.gtI_i, DL.geI_i, DL.negD_i, DL.intD_i, DL.intD_b, DL.max2D_i, DL.min2D_i, DL.gcdD_i, DL.lenD_t, DL.lenD_f, DL.isD_nn, DL.isD_in, DL.isD_tn, DL.isD_bn, DL.isD_sn, DL.isD_ib, DL.isD_tb, DL.isD_bb, DL.isD_sb, DL.isD_nb, DL.isnD_bb, DL.isi_i, DL.isi_b, DL.isi_t, DL.isi_s, DL.isi_n, DL.isTy_ii, DL.isTy_bi, DL.isTy_ib, DL.isTy_bb, DL.isTy_tt, DL.isTy_it, DL.isTy_bt, DL.isTy_ti, DL.isTy_is, DL.isTy_bs, DL.isTy_ss, DL.isTy_st, DL.isTy_nt, DL.isTy_ns, DL.isTy_ni, DL.isTy_ts, DL.isTy_si, DL.isTy_tb, DL.mulD_i, DL.modD_i, DL.fdivD_i, DL.powD_i, DL.tupD_k, DL.lstD_k, DL.fnD_k, DL.endR_rt, DL.endR_nx, DL.endR_ex, List.map_cons, List.map_nil, List.replicate_succ, List.replicate_zero, List.cons_append, List.nil_append, List.getElem?_cons_zero, List.getElem?_cons_succ, List.set_cons_zero, List.set_cons_succ, Nat.reduceSub, Nat.reduceAdd, List.length_cons, List.length_nil, List.any_cons, List.any_nil, Bool.or_false, Bool.or_true, Bool.not_true, Bool.not_false, Nat.reduceLeDiff, Bool.false_or, Bool.true_or, DL.trim_eq, DL.sFor_k, DL.kFor_0, DL.cSrc_k, DL.kSrc_0, DL.cApp_k, DL.kSrcA_0, DL.srcD_t, DL.srcD_f, DL.eqD_ii, DL.neD_ii, DL.ix_t0, DL.ix_t1, e3]), st,
      seq_nx (ρ' := [.d (.loc b), .d (.int c), .d (.int p), .d (.int q)]) (s' := s4) (by simp only [S__law_wrong_holds_5, DL.kSeq_0, DL.kSeq_1, DL.kSeq_2, DL.kSeq_3, DL.kSeq_4, DL.sSeq_k, DL.sSkip_k, DL.sBreak_k, DL.sCont_k, DL.sRetN_k, DL.kExpr_0, DL.kExpr_1, DL.sExpr_k, DL.kRet_0, DL.kRet_1, DL.sRet_k, DL.kIf_0, DL.kIf_1, DL.kIf_2, DL.sIf_k, DL.kAsg2_0, DL.kAsg_0, DL.kAsg_1, DL.sAsg_k, DL.sSet_k, DL.gN_k, DL.gsN_k, DL.kG_0, DL.gsC_k, DL.gT_k, DL.kPut4_0, DL.kPut3_0, DL.kPut3_1, DL.kPut2_0, DL.kPut2_1, DL.kPut_0, DL.kPut_1, DL.sPut_k, DL.sPar_k, DL.kVar_0, DL.eVar_k, DL.eC_k, DL.kUn_0, DL.kUn_1, DL.eUn_k, DL.eIsi_k, DL.kBin2_0, DL.kBin2_1, DL.kBin_0, DL.kBin_1, DL.eBin_k, DL.aNil_k, DL.kCons2_0, DL.kCons2_1, DL.kCons_0, DL.kCons_1, DL.aCons_k, DL.kApp_0, DL.kApp_1, DL.eApp_k, DL.kMt2_0, DL.kMt2_1, DL.kMt1_0, DL.kMt_0, DL.kMt_1, DL.eMt_k, DL.kTru_0, DL.kTru_1, DL.tTru_k, DL.kAnd_0, DL.kAnd_1, DL.kAnd_2, DL.tAndF_k, DL.kOr_0, DL.kOr_1, DL.kOr_2, DL.tOrF_k, DL.kNot_0, DL.kNot_1, DL.kNot_2, DL.tNotF_k, DL.kEIf_0, DL.kEIf_1, DL.kEIf_2, DL.eIf_k, DL.kEAnd2_0, DL.kEAnd2_1, DL.kEAnd2_2, DL.kEAnd_0, DL.kEAnd_1, DL.eAnd_k, DL.kEOr2_0, DL.kEOr2_1, DL.kEOr2_2, DL.kEOr_0, DL.kEOr_1, DL.eOr_k, DL.kENot2_0, DL.kENot2_1, DL.kENot2_2, DL.kENot_0, DL.kENot_1, DL.eNot_k, DL.kSl3_0, DL.kSl3_1, DL.kSl2_0, DL.kSl2_1, DL.kSl_0, DL.kSl_1, DL.eSl_k, DL.oNone_k, DL.kOS_0, DL.kOS_1, DL.oSome_k, DL.kKw2_0, DL.kKw2_1, DL.kKw_0, DL.kKw_1, DL.eKw_k, DL.truD_bl, DL.blD_bl, DL.addD_i, DL.subD_i, DL.ltI_i, DL.leI_i, DL.gtI_i, DL.geI_i, DL.negD_i, DL.intD_i, DL.intD_b, DL.max2D_i, DL.min2D_i, DL.gcdD_i, DL.lenD_t, DL.lenD_f, DL.isD_nn, DL.isD_in, DL.isD_tn, DL.isD_bn, DL.isD_sn, DL.isD_ib, DL.isD_tb, DL.isD_bb, DL.isD_sb, DL.isD_nb, DL.isnD_bb, DL.isi_i, DL.isi_b, DL.isi_t, DL.isi_s, DL.isi_n, DL.isTy_ii, DL.isTy_bi, DL.isTy_ib, DL.isTy_bb, DL.isTy_tt, DL.isTy_it, DL.isTy_bt, DL.isTy_ti, DL.isTy_is, DL.isTy_bs, DL.isTy_ss, DL.isTy_st, DL.isTy_nt, DL.isTy_ns, DL.isTy_ni, DL.isTy_ts, DL.isTy_si, DL.isTy_tb, DL.mulD_i, DL.modD_i, DL.fdivD_i, DL.powD_i, DL.tupD_k, DL.lstD_k, DL.fnD_k, DL.endR_rt, DL.endR_nx, DL.endR_ex, List.map_cons, List.map_nil, List.replicate_succ, List.replicate_zero, List.cons_append, List.nil_append, List.getElem?_cons_zero, List.getElem?_cons_succ, List.set_cons_zero, List.set_cons_succ, Nat.reduceSub, Nat.reduceAdd, List.length_cons, List.length_nil, List.any_cons, List.any_nil, Bool.or_false, Bool.or_true, Bool.not_true, Bool.not_false, Nat.reduceLeDiff, Bool.false_or, Bool.true_or, DL.trim_eq, DL.sFor_k, DL.kFor_0, DL.cSrc_k, DL.kSrc_0, DL.cApp_k, DL.kSrcA_0, DL.srcD_t, DL.srcD_f, DL.eqD_ii, DL.neD_ii, DL.ix_t0, DL.ix_t1, made_bad s4 hpq, same8 (.tup [.bl false, .tup [.tup [.int p, .int q], .bl true]]) s4 (by simp [gd])]),
      seq_nx (ρ' := [.d (.loc b), .d (.int c), .d (.int p), .d (.int q)]) (s' := s4) (by simp only [S__law_wrong_holds_6, DL.kSeq_0, DL.kSeq_1, DL.kSeq_2, DL.kSeq_3, DL.kSeq_4, DL.sSeq_k, DL.sSkip_k, DL.sBreak_k, DL.sCont_k, DL.sRetN_k, DL.kExpr_0, DL.kExpr_1, DL.sExpr_k, DL.kRet_0, DL.kRet_1, DL.sRet_k, DL.kIf_0, DL.kIf_1, DL.kIf_2, DL.sIf_k, DL.kAsg2_0, DL.kAsg_0, DL.kAsg_1, DL.sAsg_k, DL.sSet_k, DL.gN_k, DL.gsN_k, DL.kG_0, DL.gsC_k, DL.gT_k, DL.kPut4_0, DL.kPut3_0, DL.kPut3_1, DL.kPut2_0, DL.kPut2_1, DL.kPut_0, DL.kPut_1, DL.sPut_k, DL.sPar_k, DL.kVar_0, DL.eVar_k, DL.eC_k, DL.kUn_0, DL.kUn_1, DL.eUn_k, DL.eIsi_k, DL.kBin2_0, DL.kBin2_1, DL.kBin_0, DL.kBin_1, DL.eBin_k, DL.aNil_k, DL.kCons2_0, DL.kCons2_1, DL.kCons_0, DL.kCons_1, DL.aCons_k, DL.kApp_0, DL.kApp_1, DL.eApp_k, DL.kMt2_0, DL.kMt2_1, DL.kMt1_0, DL.kMt_0, DL.kMt_1, DL.eMt_k, DL.kTru_0, DL.kTru_1, DL.tTru_k, DL.kAnd_0, DL.kAnd_1, DL.kAnd_2, DL.tAndF_k, DL.kOr_0, DL.kOr_1, DL.kOr_2, DL.tOrF_k, DL.kNot_0, DL.kNot_1, DL.kNot_2, DL.tNotF_k, DL.kEIf_0, DL.kEIf_1, DL.kEIf_2, DL.eIf_k, DL.kEAnd2_0, DL.kEAnd2_1, DL.kEAnd2_2, DL.kEAnd_0, DL.kEAnd_1, DL.eAnd_k, DL.kEOr2_0, DL.kEOr2_1, DL.kEOr2_2, DL.kEOr_0, DL.kEOr_1, DL.eOr_k, DL.kENot2_0, DL.kENot2_1, DL.kENot2_2, DL.kENot_0, DL.kENot_1, DL.eNot_k, DL.kSl3_0, DL.kSl3_1, DL.kSl2_0, DL.kSl2_1, DL.kSl_0, DL.kSl_1, DL.eSl_k, DL.oNone_k, DL.kOS_0, DL.kOS_1, DL.oSome_k, DL.kKw2_0, DL.kKw2_1, DL.kKw_0, DL.kKw_1, DL.eKw_k, DL.truD_bl, DL.blD_bl, DL.addD_i, DL.subD_i, DL.ltI_i, DL.leI_i, DL.gtI_i, DL.geI_i, DL.negD_i, DL.intD_i, DL.intD_b, DL.max2D_i, DL.min2D_i, DL.gcdD_i, DL.lenD_t, DL.lenD_f, DL.isD_nn, DL.isD_in, DL.isD_tn, DL.isD_bn, DL.isD_sn, DL.isD_ib, DL.isD_tb, DL.isD_bb, DL.isD_sb, DL.isD_nb, DL.isnD_bb, DL.isi_i, DL.isi_b, DL.isi_t, DL.isi_s, DL.isi_n, DL.isTy_ii, DL.isTy_bi, DL.isTy_ib, DL.isTy_bb, DL.isTy_tt, DL.isTy_it, DL.isTy_bt, DL.isTy_ti, DL.isTy_is, DL.isTy_bs, DL.isTy_ss, DL.isTy_st, DL.isTy_nt, DL.isTy_ns, DL.isTy_ni, DL.isTy_ts, DL.isTy_si, DL.isTy_tb, DL.mulD_i, DL.modD_i, DL.fdivD_i, DL.powD_i, DL.tupD_k, DL.lstD_k, DL.fnD_k, DL.endR_rt, DL.endR_nx, DL.endR_ex, List.map_cons, List.map_nil, List.replicate_succ, List.replicate_zero, List.cons_append, List.nil_append, List.getElem?_cons_zero, List.getElem?_cons_succ, List.set_cons_zero, List.set_cons_succ, Nat.reduceSub, Nat.reduceAdd, List.length_cons, List.length_nil, List.any_cons, List.any_nil, Bool.or_false, Bool.or_true, Bool.not_true, Bool.not_false, Nat.reduceLeDiff, Bool.false_or, Bool.true_or, DL.trim_eq, DL.sFor_k, DL.kFor_0, DL.cSrc_k, DL.kSrc_0, DL.cApp_k, DL.kSrcA_0, DL.srcD_t, DL.srcD_f, DL.eqD_ii, DL.neD_ii, DL.ix_t0, DL.ix_t1, im, show isnD (.bl false) (.bl false) s4 = .ok (.bl false) s4 from rfl]),
      seq_nx (ρ' := [.d (.loc b), .d (.int c), .d (.int (0 - 1 - v)), .d (.int q)]) (s' := s5) (by simp only [S__law_wrong_holds_7, DL.kSeq_0, DL.kSeq_1, DL.kSeq_2, DL.kSeq_3, DL.kSeq_4, DL.sSeq_k, DL.sSkip_k, DL.sBreak_k, DL.sCont_k, DL.sRetN_k, DL.kExpr_0, DL.kExpr_1, DL.sExpr_k, DL.kRet_0, DL.kRet_1, DL.sRet_k, DL.kIf_0, DL.kIf_1, DL.kIf_2, DL.sIf_k, DL.kAsg2_0, DL.kAsg_0, DL.kAsg_1, DL.sAsg_k, DL.sSet_k, DL.gN_k, DL.gsN_k, DL.kG_0, DL.gsC_k, DL.gT_k, DL.kPut4_0, DL.kPut3_0, DL.kPut3_1, DL.kPut2_0, DL.kPut2_1, DL.kPut_0, DL.kPut_1, DL.sPut_k, DL.sPar_k, DL.kVar_0, DL.eVar_k, DL.eC_k, DL.kUn_0, DL.kUn_1, DL.eUn_k, DL.eIsi_k, DL.kBin2_0, DL.kBin2_1, DL.kBin_0, DL.kBin_1, DL.eBin_k, DL.aNil_k, DL.kCons2_0, DL.kCons2_1, DL.kCons_0, DL.kCons_1, DL.aCons_k, DL.kApp_0, DL.kApp_1, DL.eApp_k, DL.kMt2_0, DL.kMt2_1, DL.kMt1_0, DL.kMt_0, DL.kMt_1, DL.eMt_k, DL.kTru_0, DL.kTru_1, DL.tTru_k, DL.kAnd_0, DL.kAnd_1, DL.kAnd_2, DL.tAndF_k, DL.kOr_0, DL.kOr_1, DL.kOr_2, DL.tOrF_k, DL.kNot_0, DL.kNot_1, DL.kNot_2, DL.tNotF_k, DL.kEIf_0, DL.kEIf_1, DL.kEIf_2, DL.eIf_k, DL.kEAnd2_0, DL.kEAnd2_1, DL.kEAnd2_2, DL.kEAnd_0, DL.kEAnd_1, DL.eAnd_k, DL.kEOr2_0, DL.kEOr2_1, DL.kEOr2_2, DL.kEOr_0, DL.kEOr_1, DL.eOr_k, DL.kENot2_0, DL.kENot2_1, DL.kENot2_2, DL.kENot_0, DL.kENot_1, DL.eNot_k, DL.kSl3_0, DL.kSl3_1, DL.kSl2_0, DL.kSl2_1, DL.kSl_0, DL.kSl_1, DL.eSl_k, DL.oNone_k, DL.kOS_0, DL.kOS_1, DL.oSome_k, DL.kKw2_0, DL.kKw2_1, DL.kKw_0, DL.kKw_1, DL.eKw_k, DL.truD_bl, DL.blD_bl, DL.addD_i, DL.subD_i, DL.ltI_i, DL.leI_i, DL.gtI_i, DL.geI_i, DL.negD_i, DL.intD_i, DL.intD_b, DL.max2D_i, DL.min2D_i, DL.gcdD_i, DL.lenD_t, DL.lenD_f, DL.isD_nn, DL.isD_in, DL.isD_tn, DL.isD_bn, DL.isD_sn, DL.isD_ib, DL.isD_tb, DL.isD_bb, DL.isD_sb, DL.isD_nb, DL.isnD_bb, DL.isi_i, DL.isi_b, DL.isi_t, DL.isi_s, DL.isi_n, DL.isTy_ii, DL.isTy_bi, DL.isTy_ib, DL.isTy_bb, DL.isTy_tt, DL.isTy_it, DL.isTy_bt, DL.isTy_ti, DL.isTy_is, DL.isTy_bs, DL.isTy_ss, DL.isTy_st, DL.isTy_nt, DL.isTy_ns, DL.isTy_ni, DL.isTy_ts, DL.isTy_si, DL.isTy_tb, DL.mulD_i, DL.modD_i, DL.fdivD_i, DL.powD_i, DL.tupD_k, DL.lstD_k, DL.fnD_k, DL.endR_rt, DL.endR_nx, DL.endR_ex, List.map_cons, List.map_nil, List.replicate_succ, List.replicate_zero, List.cons_append, List.nil_append, List.getElem?_cons_zero, List.getElem?_cons_succ, List.set_cons_zero, List.set_cons_succ, Nat.reduceSub, Nat.reduceAdd, List.length_cons, List.length_nil, List.any_cons, List.any_nil, Bool.or_false, Bool.or_true, Bool.not_true, Bool.not_false, Nat.reduceLeDiff, Bool.false_or, Bool.true_or, DL.trim_eq, DL.sFor_k, DL.kFor_0, DL.cSrc_k, DL.kSrc_0, DL.cApp_k, DL.kSrcA_0, DL.srcD_t, DL.srcD_f, DL.eqD_ii, DL.neD_ii, DL.ix_t0, DL.ix_t1, e5])]
    simp only [S__law_wrong_holds_8, DL.kSeq_0, DL.kSeq_1, DL.kSeq_2, DL.kSeq_3, DL.kSeq_4, DL.sSeq_k, DL.sSkip_k, DL.sBreak_k, DL.sCont_k, DL.sRetN_k, DL.kExpr_0, DL.kExpr_1, DL.sExpr_k, DL.kRet_0, DL.kRet_1, DL.sRet_k, DL.kIf_0, DL.kIf_1, DL.kIf_2, DL.sIf_k, DL.kAsg2_0, DL.kAsg_0, DL.kAsg_1, DL.sAsg_k, DL.sSet_k, DL.gN_k, DL.gsN_k, DL.kG_0, DL.gsC_k, DL.gT_k, DL.kPut4_0, DL.kPut3_0, DL.kPut3_1, DL.kPut2_0, DL.kPut2_1, DL.kPut_0, DL.kPut_1, DL.sPut_k, DL.sPar_k, DL.kVar_0, DL.eVar_k, DL.eC_k, DL.kUn_0, DL.kUn_1, DL.eUn_k, DL.eIsi_k, DL.kBin2_0, DL.kBin2_1, DL.kBin_0, DL.kBin_1, DL.eBin_k, DL.aNil_k, DL.kCons2_0, DL.kCons2_1, DL.kCons_0, DL.kCons_1, DL.aCons_k, DL.kApp_0, DL.kApp_1, DL.eApp_k, DL.kMt2_0, DL.kMt2_1, DL.kMt1_0, DL.kMt_0, DL.kMt_1, DL.eMt_k, DL.kTru_0, DL.kTru_1, DL.tTru_k, DL.kAnd_0, DL.kAnd_1, DL.kAnd_2, DL.tAndF_k, DL.kOr_0, DL.kOr_1, DL.kOr_2, DL.tOrF_k, DL.kNot_0, DL.kNot_1, DL.kNot_2, DL.tNotF_k, DL.kEIf_0, DL.kEIf_1, DL.kEIf_2, DL.eIf_k, DL.kEAnd2_0, DL.kEAnd2_1, DL.kEAnd2_2, DL.kEAnd_0, DL.kEAnd_1, DL.eAnd_k, DL.kEOr2_0, DL.kEOr2_1, DL.kEOr2_2, DL.kEOr_0, DL.kEOr_1, DL.eOr_k, DL.kENot2_0, DL.kENot2_1, DL.kENot2_2, DL.kENot_0, DL.kENot_1, DL.eNot_k, DL.kSl3_0, DL.kSl3_1, DL.kSl2_0, DL.kSl2_1, DL.kSl_0, DL.kSl_1, DL.eSl_k, DL.oNone_k, DL.kOS_0, DL.kOS_1, DL.oSome_k, DL.kKw2_0, DL.kKw2_1, DL.kKw_0, DL.kKw_1, DL.eKw_k, DL.truD_bl, DL.blD_bl, DL.addD_i, DL.subD_i, DL.ltI_i, DL.leI_i, DL.gtI_i, DL.geI_i, DL.negD_i, DL.intD_i, DL.intD_b, DL.max2D_i, DL.min2D_i, DL.gcdD_i, DL.lenD_t, DL.lenD_f, DL.isD_nn, DL.isD_in, DL.isD_tn, DL.isD_bn, DL.isD_sn, DL.isD_ib, DL.isD_tb, DL.isD_bb, DL.isD_sb, DL.isD_nb, DL.isnD_bb, DL.isi_i, DL.isi_b, DL.isi_t, DL.isi_s, DL.isi_n, DL.isTy_ii, DL.isTy_bi, DL.isTy_ib, DL.isTy_bb, DL.isTy_tt, DL.isTy_it, DL.isTy_bt, DL.isTy_ti, DL.isTy_is, DL.isTy_bs, DL.isTy_ss, DL.isTy_st, DL.isTy_nt, DL.isTy_ns, DL.isTy_ni, DL.isTy_ts, DL.isTy_si, DL.isTy_tb, DL.mulD_i, DL.modD_i, DL.fdivD_i, DL.powD_i, DL.tupD_k, DL.lstD_k, DL.fnD_k, DL.endR_rt, DL.endR_nx, DL.endR_ex, List.map_cons, List.map_nil, List.replicate_succ, List.replicate_zero, List.cons_append, List.nil_append, List.getElem?_cons_zero, List.getElem?_cons_succ, List.set_cons_zero, List.set_cons_succ, Nat.reduceSub, Nat.reduceAdd, List.length_cons, List.length_nil, List.any_cons, List.any_nil, Bool.or_false, Bool.or_true, Bool.not_true, Bool.not_false, Nat.reduceLeDiff, Bool.false_or, Bool.true_or, DL.trim_eq, DL.sFor_k, DL.kFor_0, DL.cSrc_k, DL.kSrc_0, DL.cApp_k, DL.kSrcA_0, DL.srcD_t, DL.srcD_f, DL.eqD_ii, DL.neD_ii, DL.ix_t0, DL.ix_t1, made_bad1 s5 neg, same8 (.tup [.bl false, .tup [.tup [.int (0 - 1 - v), .int 1], .bl true]]) s5 (by simp [gd])]
  rcases trim_any (.bl true) s s5 with h | ⟨_, h⟩
  · exact ⟨s5, by simp only [F__law_wrong_holds, DL.kSeq_0, DL.kSeq_1, DL.kSeq_2, DL.kSeq_3, DL.kSeq_4, DL.sSeq_k, DL.sSkip_k, DL.sBreak_k, DL.sCont_k, DL.sRetN_k, DL.kExpr_0, DL.kExpr_1, DL.sExpr_k, DL.kRet_0, DL.kRet_1, DL.sRet_k, DL.kIf_0, DL.kIf_1, DL.kIf_2, DL.sIf_k, DL.kAsg2_0, DL.kAsg_0, DL.kAsg_1, DL.sAsg_k, DL.sSet_k, DL.gN_k, DL.gsN_k, DL.kG_0, DL.gsC_k, DL.gT_k, DL.kPut4_0, DL.kPut3_0, DL.kPut3_1, DL.kPut2_0, DL.kPut2_1, DL.kPut_0, DL.kPut_1, DL.sPut_k, DL.sPar_k, DL.kVar_0, DL.eVar_k, DL.eC_k, DL.kUn_0, DL.kUn_1, DL.eUn_k, DL.eIsi_k, DL.kBin2_0, DL.kBin2_1, DL.kBin_0, DL.kBin_1, DL.eBin_k, DL.aNil_k, DL.kCons2_0, DL.kCons2_1, DL.kCons_0, DL.kCons_1, DL.aCons_k, DL.kApp_0, DL.kApp_1, DL.eApp_k, DL.kMt2_0, DL.kMt2_1, DL.kMt1_0, DL.kMt_0, DL.kMt_1, DL.eMt_k, DL.kTru_0, DL.kTru_1, DL.tTru_k, DL.kAnd_0, DL.kAnd_1, DL.kAnd_2, DL.tAndF_k, DL.kOr_0, DL.kOr_1, DL.kOr_2, DL.tOrF_k, DL.kNot_0, DL.kNot_1, DL.kNot_2, DL.tNotF_k, DL.kEIf_0, DL.kEIf_1, DL.kEIf_2, DL.eIf_k, DL.kEAnd2_0, DL.kEAnd2_1, DL.kEAnd2_2, DL.kEAnd_0, DL.kEAnd_1, DL.eAnd_k, DL.kEOr2_0, DL.kEOr2_1, DL.kEOr2_2, DL.kEOr_0, DL.kEOr_1, DL.eOr_k, DL.kENot2_0, DL.kENot2_1, DL.kENot2_2, DL.kENot_0, DL.kENot_1, DL.eNot_k, DL.kSl3_0, DL.kSl3_1, DL.kSl2_0, DL.kSl2_1, DL.kSl_0, DL.kSl_1, DL.eSl_k, DL.oNone_k, DL.kOS_0, DL.kOS_1, DL.oSome_k, DL.kKw2_0, DL.kKw2_1, DL.kKw_0, DL.kKw_1, DL.eKw_k, DL.truD_bl, DL.blD_bl, DL.addD_i, DL.subD_i, DL.ltI_i, DL.leI_i, DL.gtI_i, DL.geI_i, DL.negD_i, DL.intD_i, DL.intD_b, DL.max2D_i, DL.min2D_i, DL.gcdD_i, DL.lenD_t, DL.lenD_f, DL.isD_nn, DL.isD_in, DL.isD_tn, DL.isD_bn, DL.isD_sn, DL.isD_ib, DL.isD_tb, DL.isD_bb, DL.isD_sb, DL.isD_nb, DL.isnD_bb, DL.isi_i, DL.isi_b, DL.isi_t, DL.isi_s, DL.isi_n, DL.isTy_ii, DL.isTy_bi, DL.isTy_ib, DL.isTy_bb, DL.isTy_tt, DL.isTy_it, DL.isTy_bt, DL.isTy_ti, DL.isTy_is, DL.isTy_bs, DL.isTy_ss, DL.isTy_st, DL.isTy_nt, DL.isTy_ns, DL.isTy_ni, DL.isTy_ts, DL.isTy_si, DL.isTy_tb, DL.mulD_i, DL.modD_i, DL.fdivD_i, DL.powD_i, DL.tupD_k, DL.lstD_k, DL.fnD_k, DL.endR_rt, DL.endR_nx, DL.endR_ex, List.map_cons, List.map_nil, List.replicate_succ, List.replicate_zero, List.cons_append, List.nil_append, List.getElem?_cons_zero, List.getElem?_cons_succ, List.set_cons_zero, List.set_cons_succ, Nat.reduceSub, Nat.reduceAdd, List.length_cons, List.length_nil, List.any_cons, List.any_nil, Bool.or_false, Bool.or_true, Bool.not_true, Bool.not_false, Nat.reduceLeDiff, Bool.false_or, Bool.true_or, DL.trim_eq, DL.sFor_k, DL.kFor_0, DL.cSrc_k, DL.kSrc_0, DL.cApp_k, DL.kSrcA_0, DL.srcD_t, DL.srcD_f, DL.eqD_ii, DL.neD_ii, DL.ix_t0, DL.ix_t1]; rw [e]; exact h⟩
  · exact ⟨s, by simp only [F__law_wrong_holds, DL.kSeq_0, DL.kSeq_1, DL.kSeq_2, DL.kSeq_3, DL.kSeq_4, DL.sSeq_k, DL.sSkip_k, DL.sBreak_k, DL.sCont_k, DL.sRetN_k, DL.kExpr_0, DL.kExpr_1, DL.sExpr_k, DL.kRet_0, DL.kRet_1, DL.sRet_k, DL.kIf_0, DL.kIf_1, DL.kIf_2, DL.sIf_k, DL.kAsg2_0, DL.kAsg_0, DL.kAsg_1, DL.sAsg_k, DL.sSet_k, DL.gN_k, DL.gsN_k, DL.kG_0, DL.gsC_k, DL.gT_k, DL.kPut4_0, DL.kPut3_0, DL.kPut3_1, DL.kPut2_0, DL.kPut2_1, DL.kPut_0, DL.kPut_1, DL.sPut_k, DL.sPar_k, DL.kVar_0, DL.eVar_k, DL.eC_k, DL.kUn_0, DL.kUn_1, DL.eUn_k, DL.eIsi_k, DL.kBin2_0, DL.kBin2_1, DL.kBin_0, DL.kBin_1, DL.eBin_k, DL.aNil_k, DL.kCons2_0, DL.kCons2_1, DL.kCons_0, DL.kCons_1, DL.aCons_k, DL.kApp_0, DL.kApp_1, DL.eApp_k, DL.kMt2_0, DL.kMt2_1, DL.kMt1_0, DL.kMt_0, DL.kMt_1, DL.eMt_k, DL.kTru_0, DL.kTru_1, DL.tTru_k, DL.kAnd_0, DL.kAnd_1, DL.kAnd_2, DL.tAndF_k, DL.kOr_0, DL.kOr_1, DL.kOr_2, DL.tOrF_k, DL.kNot_0, DL.kNot_1, DL.kNot_2, DL.tNotF_k, DL.kEIf_0, DL.kEIf_1, DL.kEIf_2, DL.eIf_k, DL.kEAnd2_0, DL.kEAnd2_1, DL.kEAnd2_2, DL.kEAnd_0, DL.kEAnd_1, DL.eAnd_k, DL.kEOr2_0, DL.kEOr2_1, DL.kEOr2_2, DL.kEOr_0, DL.kEOr_1, DL.eOr_k, DL.kENot2_0, DL.kENot2_1, DL.kENot2_2, DL.kENot_0, DL.kENot_1, DL.eNot_k, DL.kSl3_0, DL.kSl3_1, DL.kSl2_0, DL.kSl2_1, DL.kSl_0, DL.kSl_1, DL.eSl_k, DL.oNone_k, DL.kOS_0, DL.kOS_1, DL.oSome_k, DL.kKw2_0, DL.kKw2_1, DL.kKw_0, DL.kKw_1, DL.eKw_k, DL.truD_bl, DL.blD_bl, DL.addD_i, DL.subD_i, DL.ltI_i, DL.leI_i, DL.gtI_i, DL.geI_i, DL.negD_i, DL.intD_i, DL.intD_b, DL.max2D_i, DL.min2D_i, DL.gcdD_i, DL.lenD_t, DL.lenD_f, DL.isD_nn, DL.isD_in, DL.isD_tn, DL.isD_bn, DL.isD_sn, DL.isD_ib, DL.isD_tb, DL.isD_bb, DL.isD_sb, DL.isD_nb, DL.isnD_bb, DL.isi_i, DL.isi_b, DL.isi_t, DL.isi_s, DL.isi_n, DL.isTy_ii, DL.isTy_bi, DL.isTy_ib, DL.isTy_bb, DL.isTy_tt, DL.isTy_it, DL.isTy_bt, DL.isTy_ti, DL.isTy_is, DL.isTy_bs, DL.isTy_ss, DL.isTy_st, DL.isTy_nt, DL.isTy_ns, DL.isTy_ni, DL.isTy_ts, DL.isTy_si, DL.isTy_tb, DL.mulD_i, DL.modD_i, DL.fdivD_i, DL.powD_i, DL.tupD_k, DL.lstD_k, DL.fnD_k, DL.endR_rt, DL.endR_nx, DL.endR_ex, List.map_cons, List.map_nil, List.replicate_succ, List.replicate_zero, List.cons_append, List.nil_append, List.getElem?_cons_zero, List.getElem?_cons_succ, List.set_cons_zero, List.set_cons_succ, Nat.reduceSub, Nat.reduceAdd, List.length_cons, List.length_nil, List.any_cons, List.any_nil, Bool.or_false, Bool.or_true, Bool.not_true, Bool.not_false, Nat.reduceLeDiff, Bool.false_or, Bool.true_or, DL.trim_eq, DL.sFor_k, DL.kFor_0, DL.cSrc_k, DL.kSrc_0, DL.cApp_k, DL.kSrcA_0, DL.srcD_t, DL.srcD_f, DL.eqD_ii, DL.neD_ii, DL.ix_t0, DL.ix_t1]; rw [e]; exact h⟩

/-! ### the law -/
theorem cut_mo (xs : List (Int × Int)) (lo hi : Option Int) : cutG (xs.map mo) lo hi = (cutG xs lo hi).map mo := by
  unfold cutG
  rw [List.length_map, List.map_take, List.map_drop]
theorem cut_mem {xs : List (Int × Int)} {lo hi : Option Int} {x : Int × Int} (h : x ∈ cutG xs lo hi) : x ∈ xs := by
  unfold cutG at h
  exact List.mem_of_mem_drop (List.mem_of_mem_take h)
theorem L0_ok {s : Sto} {b g n l : Nat} {xs : List (Int × Int)} {c : Sl} {d0 : D} (B : Box s b g (n + 8)) (hl : s[l]? = some (.lst (xs.map mo))) (n1 : l ≠ b) (n2 : l ≠ g) (h : ∀ x ∈ xs, Mo x) (hz : xs.length ≤ 50) :
    ∃ x s', L_law_0 [.d d0, .d (.loc b), .d (.loc l), c] s = .nx [.d d0, .d (.loc b), .d (.loc l), c] s' ∧ Mo x ∧ s'[l]? = some (.lst ((xs ++ [x]).map mo)) ∧ Box s' b g n := by
  have ll := (List.getElem?_eq_some_iff.mp hl).1
  have ld : listD [.loc l] s = .ok (.loc s.length) (s ++ [.lst (xs.map mo)]) := by simp [listD, hl]
  have B0 := B.app [Cell.lst (xs.map mo)]
  obtain ⟨x, s1, e1, M, B1, F1⟩ := fraction_ok (l := s.length) B0 (by simp) (by have := B.lt; omega) (by have := B.lt; omega) h (by omega)
  have h1 : s1[l]? = some (.lst (xs.map mo)) := F1.lst (by rw [List.getElem?_append_left ll]; exact hl) n1 n2
  have l1 := (List.getElem?_eq_some_iff.mp h1).1
  have ty : tyD "list" (.loc l) s = true := by simp [tyD, hl]
  have ap : appD (.loc l) [mo x] s1 = .ok .non (s1.set l (.lst ((xs ++ [x]).map mo))) := by
    simp [appD, h1, show xs.length < 100000 by omega]
  refine ⟨x, s1.set l (.lst ((xs ++ [x]).map mo)), ?_, M, List.getElem?_set_self l1, B1.cells (List.getElem?_set_ne n1) (List.getElem?_set_ne n2)⟩
  simp only [L_law_0, DL.kSeq_0, DL.kSeq_1, DL.kSeq_2, DL.kSeq_3, DL.kSeq_4, DL.sSeq_k, DL.sSkip_k, DL.sBreak_k, DL.sCont_k, DL.sRetN_k, DL.kExpr_0, DL.kExpr_1, DL.sExpr_k, DL.kRet_0, DL.kRet_1, DL.sRet_k, DL.kIf_0, DL.kIf_1, DL.kIf_2, DL.sIf_k, DL.kAsg2_0, DL.kAsg_0, DL.kAsg_1, DL.sAsg_k, DL.sSet_k, DL.gN_k, DL.gsN_k, DL.kG_0, DL.gsC_k, DL.gT_k, DL.kPut4_0, DL.kPut3_0, DL.kPut3_1, DL.kPut2_0, DL.kPut2_1, DL.kPut_0, DL.kPut_1, DL.sPut_k, DL.sPar_k, DL.kVar_0, DL.eVar_k, DL.eC_k, DL.kUn_0, DL.kUn_1, DL.eUn_k, DL.eIsi_k, DL.kBin2_0, DL.kBin2_1, DL.kBin_0, DL.kBin_1, DL.eBin_k, DL.aNil_k, DL.kCons2_0, DL.kCons2_1, DL.kCons_0, DL.kCons_1, DL.aCons_k, DL.kApp_0, DL.kApp_1, DL.eApp_k, DL.kMt2_0, DL.kMt2_1, DL.kMt1_0, DL.kMt_0, DL.kMt_1, DL.eMt_k, DL.kTru_0, DL.kTru_1, DL.tTru_k, DL.kAnd_0, DL.kAnd_1, DL.kAnd_2, DL.tAndF_k, DL.kOr_0, DL.kOr_1, DL.kOr_2, DL.tOrF_k, DL.kNot_0, DL.kNot_1, DL.kNot_2, DL.tNotF_k, DL.kEIf_0, DL.kEIf_1, DL.kEIf_2, DL.eIf_k, DL.kEAnd2_0, DL.kEAnd2_1, DL.kEAnd2_2, DL.kEAnd_0, DL.kEAnd_1, DL.eAnd_k, DL.kEOr2_0, DL.kEOr2_1, DL.kEOr2_2, DL.kEOr_0, DL.kEOr_1, DL.eOr_k, DL.kENot2_0, DL.kENot2_1, DL.kENot2_2, DL.kENot_0, DL.kENot_1, DL.eNot_k, DL.kSl3_0, DL.kSl3_1, DL.kSl2_0, DL.kSl2_1, DL.kSl_0, DL.kSl_1, DL.eSl_k, DL.oNone_k, DL.kOS_0, DL.kOS_1, DL.oSome_k, DL.kKw2_0, DL.kKw2_1, DL.kKw_0, DL.kKw_1, DL.eKw_k, DL.truD_bl, DL.blD_bl, DL.addD_i, DL.subD_i, DL.ltI_i, DL.leI_i, DL.gtI_i, DL.geI_i, DL.negD_i, DL.intD_i, DL.intD_b, DL.max2D_i, DL.min2D_i, DL.gcdD_i, DL.lenD_t, DL.lenD_f, DL.isD_nn, DL.isD_in, DL.isD_tn, DL.isD_bn, DL.isD_sn, DL.isD_ib, DL.isD_tb, DL.isD_bb, DL.isD_sb, DL.isD_nb, DL.isnD_bb, DL.isi_i, DL.isi_b, DL.isi_t, DL.isi_s, DL.isi_n, DL.isTy_ii, DL.isTy_bi, DL.isTy_ib, DL.isTy_bb, DL.isTy_tt, DL.isTy_it, DL.isTy_bt, DL.isTy_ti, DL.isTy_is, DL.isTy_bs, DL.isTy_ss, DL.isTy_st, DL.isTy_nt, DL.isTy_ns, DL.isTy_ni, DL.isTy_ts, DL.isTy_si, DL.isTy_tb, DL.mulD_i, DL.modD_i, DL.fdivD_i, DL.powD_i, DL.tupD_k, DL.lstD_k, DL.fnD_k, DL.endR_rt, DL.endR_nx, DL.endR_ex, List.map_cons, List.map_nil, List.replicate_succ, List.replicate_zero, List.cons_append, List.nil_append, List.getElem?_cons_zero, List.getElem?_cons_succ, List.set_cons_zero, List.set_cons_succ, Nat.reduceSub, Nat.reduceAdd, List.length_cons, List.length_nil, List.any_cons, List.any_nil, Bool.or_false, Bool.or_true, Bool.not_true, Bool.not_false, Nat.reduceLeDiff, Bool.false_or, Bool.true_or, DL.trim_eq, DL.sFor_k, DL.kFor_0, DL.cSrc_k, DL.kSrc_0, DL.cApp_k, DL.kSrcA_0, DL.srcD_t, DL.srcD_f, DL.eqD_ii, DL.neD_ii, DL.ix_t0, DL.ix_t1, ty, ld, e1, ap]
theorem L1_ok {s : Sto} {b g n l : Nat} {xs : List (Int × Int)} {c d0 : D} {k : Nat} (B : Box s b g (n + 1)) (hl : s[l]? = some (.lst (xs.map mo))) (n1 : l ≠ b) (n2 : l ≠ g) (h : ∀ x ∈ xs, Mo x) (hz : xs.length ≤ 5) (hk : k < xs.length) :
    ∃ s', L_law_1 [.d d0, .d (.loc b), .d (.loc l), .d (.int k)] s = .nx [.d d0, .d (.loc b), .d (.loc l), .d (.int k)] s' ∧ s'[l]? = some (.lst (xs.map mo)) ∧ Box s' b g n := by
  have a0 : atI (xs.map mo) (k : Int) = some (mo xs[k]) := by
    unfold atI
    rw [ixN_nn (by omega) (by simp; omega)]
    simp [hk]
  have M0 := h _ (List.getElem_mem hk)
  obtain ⟨j, hj, a1⟩ : ∃ (j : Nat) (hj : j < xs.length), atI (xs.map mo) ((k : Int) - 1) = some (mo xs[j]) := by
    by_cases h0 : k = 0
    · subst h0
      refine ⟨xs.length - 1, by omega, ?_⟩
      unfold atI ixN
      rw [if_neg (by decide), if_pos (by simp; omega)]
      have : (((0 : Nat) : Int) - 1 + ((xs.map mo).length : Int)).toNat = xs.length - 1 := by simp; omega
      rw [this]
      simp [show xs.length - 1 < xs.length by omega]
    · refine ⟨k - 1, by omega, ?_⟩
      unfold atI
      rw [ixN_nn (by omega) (by simp; omega)]
      have : ((k : Int) - 1).toNat = k - 1 := by omega
      rw [this]
      simp [show k - 1 < xs.length by omega]
  have M1 := h _ (List.getElem_mem hj)
  obtain ⟨s1, e1, B1, F1⟩ := one_ok B M0
  have h1 := F1.lst hl n1 n2
  have i0 := ix_l hl a0
  have i1 := ix_l h1 a0
  have i2 := ix_l h1 a1
  have l1 := (List.getElem?_eq_some_iff.mp h1).1
  have sl : slD (.loc l) (some (k : Int)) none s1 = .ok (.loc s1.length) (s1 ++ [.lst ((cutG xs (some (k : Int)) none).map mo)]) := by
    simp [slD, h1, cut_mo]
  have sm : F__law_sum_holds [.loc s1.length] (s1 ++ [.lst ((cutG xs (some (k : Int)) none).map mo)]) = .ok (.bl true) (s1 ++ [.lst ((cutG xs (some (k : Int)) none).map mo)]) := sum_ok (xs := cutG xs (some (k : Int)) none) (by simp) (fun x hx => h x (cut_mem hx)) (Nat.le_trans (cutG_length _ _ _) hz)
  refine ⟨s1 ++ [.lst ((cutG xs (some (k : Int)) none).map mo)], ?_, by rw [List.getElem?_append_left l1]; exact h1, B1.app _⟩
  simp only [L_law_1, DL.kSeq_0, DL.kSeq_1, DL.kSeq_2, DL.kSeq_3, DL.kSeq_4, DL.sSeq_k, DL.sSkip_k, DL.sBreak_k, DL.sCont_k, DL.sRetN_k, DL.kExpr_0, DL.kExpr_1, DL.sExpr_k, DL.kRet_0, DL.kRet_1, DL.sRet_k, DL.kIf_0, DL.kIf_1, DL.kIf_2, DL.sIf_k, DL.kAsg2_0, DL.kAsg_0, DL.kAsg_1, DL.sAsg_k, DL.sSet_k, DL.gN_k, DL.gsN_k, DL.kG_0, DL.gsC_k, DL.gT_k, DL.kPut4_0, DL.kPut3_0, DL.kPut3_1, DL.kPut2_0, DL.kPut2_1, DL.kPut_0, DL.kPut_1, DL.sPut_k, DL.sPar_k, DL.kVar_0, DL.eVar_k, DL.eC_k, DL.kUn_0, DL.kUn_1, DL.eUn_k, DL.eIsi_k, DL.kBin2_0, DL.kBin2_1, DL.kBin_0, DL.kBin_1, DL.eBin_k, DL.aNil_k, DL.kCons2_0, DL.kCons2_1, DL.kCons_0, DL.kCons_1, DL.aCons_k, DL.kApp_0, DL.kApp_1, DL.eApp_k, DL.kMt2_0, DL.kMt2_1, DL.kMt1_0, DL.kMt_0, DL.kMt_1, DL.eMt_k, DL.kTru_0, DL.kTru_1, DL.tTru_k, DL.kAnd_0, DL.kAnd_1, DL.kAnd_2, DL.tAndF_k, DL.kOr_0, DL.kOr_1, DL.kOr_2, DL.tOrF_k, DL.kNot_0, DL.kNot_1, DL.kNot_2, DL.tNotF_k, DL.kEIf_0, DL.kEIf_1, DL.kEIf_2, DL.eIf_k, DL.kEAnd2_0, DL.kEAnd2_1, DL.kEAnd2_2, DL.kEAnd_0, DL.kEAnd_1, DL.eAnd_k, DL.kEOr2_0, DL.kEOr2_1, DL.kEOr2_2, DL.kEOr_0, DL.kEOr_1, DL.eOr_k, DL.kENot2_0, DL.kENot2_1, DL.kENot2_2, DL.kENot_0, DL.kENot_1, DL.eNot_k, DL.kSl3_0, DL.kSl3_1, DL.kSl2_0, DL.kSl2_1, DL.kSl_0, DL.kSl_1, DL.eSl_k, DL.oNone_k, DL.kOS_0, DL.kOS_1, DL.oSome_k, DL.kKw2_0, DL.kKw2_1, DL.kKw_0, DL.kKw_1, DL.eKw_k, DL.truD_bl, DL.blD_bl, DL.addD_i, DL.subD_i, DL.ltI_i, DL.leI_i, DL.gtI_i, DL.geI_i, DL.negD_i, DL.intD_i, DL.intD_b, DL.max2D_i, DL.min2D_i, DL.gcdD_i, DL.lenD_t, DL.lenD_f, DL.isD_nn, DL.isD_in, DL.isD_tn, DL.isD_bn, DL.isD_sn, DL.isD_ib, DL.isD_tb, DL.isD_bb, DL.isD_sb, DL.isD_nb, DL.isnD_bb, DL.isi_i, DL.isi_b, DL.isi_t, DL.isi_s, DL.isi_n, DL.isTy_ii, DL.isTy_bi, DL.isTy_ib, DL.isTy_bb, DL.isTy_tt, DL.isTy_it, DL.isTy_bt, DL.isTy_ti, DL.isTy_is, DL.isTy_bs, DL.isTy_ss, DL.isTy_st, DL.isTy_nt, DL.isTy_ns, DL.isTy_ni, DL.isTy_ts, DL.isTy_si, DL.isTy_tb, DL.mulD_i, DL.modD_i, DL.fdivD_i, DL.powD_i, DL.tupD_k, DL.lstD_k, DL.fnD_k, DL.endR_rt, DL.endR_nx, DL.endR_ex, List.map_cons, List.map_nil, List.replicate_succ, List.replicate_zero, List.cons_append, List.nil_append, List.getElem?_cons_zero, List.getElem?_cons_succ, List.set_cons_zero, List.set_cons_succ, Nat.reduceSub, Nat.reduceAdd, List.length_cons, List.length_nil, List.any_cons, List.any_nil, Bool.or_false, Bool.or_true, Bool.not_true, Bool.not_false, Nat.reduceLeDiff, Bool.false_or, Bool.true_or, DL.trim_eq, DL.sFor_k, DL.kFor_0, DL.cSrc_k, DL.kSrc_0, DL.cApp_k, DL.kSrcA_0, DL.srcD_t, DL.srcD_f, DL.eqD_ii, DL.neD_ii, DL.ix_t0, DL.ix_t1, i0, e1, i1, i2, two_ok M0 M1, two_ok M1 M0, two_ok M0 M0, sl, sm]
theorem math : ∀ ns : List Int, ns.length ≤ 63 → (∀ z ∈ ns, Builtin.Int.intBits z ≤ 1048576) → ∃ s, F_law [.fls (ns.map D.int)] [] = .ok (.bl true) s := by
  intro ns hn hb
  obtain ⟨s0, e0, B0, l0⟩ := box_ok ns hn hb
  have B1 := B0.app [Cell.lst []]
  obtain ⟨r, s2, e2, r0, r5, B2, F2⟩ := draw_ok (n := 2 ^ 59 - 1) (k := 5) (s := s0 ++ [Cell.lst []]) (by exact B1) (by decide) (k9000 (by decide) (by decide))
  have hl1 : (s0 ++ [Cell.lst []])[4]? = some (.lst (([] : List (Int × Int)).map mo)) := by
    rw [List.getElem?_append_right (by omega), l0]; rfl
  have hl2 := F2.lst hl1 (by decide) (by decide)
  have rg := rng1D_i (n := 1 + r) s2 (by omega) (by omega)
  obtain ⟨ρ', s3, e3, hI⟩ := for_inv (S := .items ((List.range (1 + r).toNat).map fun (i : Nat) => D.int (i : Int))) (g := gN 3) (F := L_law_0) (fun q ρ s => ∃ (xs : List (Int × Int)) (c : Sl), xs.length + q.length = (1 + r).toNat ∧ (∀ x ∈ xs, Mo x) ∧ s[4]? = some (.lst (xs.map mo)) ∧ Box s 3 0 (100 + 8 * q.length) ∧ ρ = [.d (.fls (ns.map D.int)), .d (.loc 3), .d (.loc 4), c])
    (fun _ _ _ _ => trivial) (fun x q ρ s ⟨xs, c, q1, q2, q3, q4, q5⟩ => by
      subst q5
      simp only [List.length_cons] at q1 q4
      obtain ⟨x', s', z1, z2, z3, z4⟩ := L0_ok (n := 100 + 8 * q.length) (c := .d x) (d0 := .fls (ns.map D.int)) (q4.mono (by omega)) q3 (by decide) (by decide) q2 (by omega)
      refine ⟨_, rfl, _, _, .inl z1, xs ++ [x'], _, by simp; omega, fun y hy => ?_, z3, z4, rfl⟩
      rcases List.mem_append.1 hy with hy | hy
      · exact q2 y hy
      · rw [List.mem_singleton.mp hy]; exact z2) (ρ := [.d (.fls (ns.map D.int)), .d (.loc 3), .d (.loc 4), .un]) (s := s2) ⟨[], .un, by simp [Src.list], fun _ hx => by simp at hx, hl2, B2.mono (by simp [Src.list]; omega), rfl⟩
  obtain ⟨xs, c, q1, q2, q3, q4, q5⟩ := hI
  subst q5
  have xl : xs.length = (1 + r).toNat := by simpa using q1
  have x1 : 1 ≤ xs.length := by omega
  have x5 : xs.length ≤ 5 := by omega
  have ln : lenD [.loc 4] s3 = .ok (.int xs.length) s3 := by simp [lenD, q3]
  have rg2 := rng1D_i (n := xs.length) s3 (by omega) (by omega)
  obtain ⟨ρ'', s4, e4, hJ⟩ := for_inv (S := .items ((List.range (xs.length : Int).toNat).map fun (i : Nat) => D.int (i : Int))) (g := gN 3) (F := L_law_1) (fun q ρ s => ∃ (c : Sl) (is : List Nat), q = is.map (fun (i : Nat) => D.int (i : Int)) ∧ (∀ i ∈ is, i < xs.length) ∧ is.length ≤ 5 ∧ s[4]? = some (.lst (xs.map mo)) ∧ Box s 3 0 (10 + is.length) ∧ ρ = [.d (.fls (ns.map D.int)), .d (.loc 3), .d (.loc 4), c])
    (fun _ _ _ _ => trivial) (fun x q ρ s ⟨c, is, j1, j2, j3, j4, j5, j6⟩ => by
      cases is with
      | nil => cases j1
      | cons i is =>
        rw [List.map_cons] at j1
        obtain ⟨j7, j8⟩ := List.cons.inj j1
        subst j6 j7 j8
        simp only [List.length_cons] at j3 j5
        obtain ⟨s', z1, z2, z3⟩ := L1_ok (n := 10 + is.length) (c := .non) (d0 := .fls (ns.map D.int)) (k := i) (j5.mono (by omega)) j4 (by decide) (by decide) q2 x5 (j2 i (by simp))
        exact ⟨_, rfl, _, _, .inl z1, _, is, rfl, fun y hy => j2 y (by simp [hy]), by omega, z2, z3, rfl⟩) (ρ := [.d (.fls (ns.map D.int)), .d (.loc 3), .d (.loc 4), c]) (s := s3) ⟨c, List.range (xs.length : Int).toNat, rfl, fun i hi => by simpa using hi, by simp; omega, q3, q4.mono (by simp; omega), rfl⟩
  obtain ⟨c2, is, j1, j2, j3, j4, j5, j6⟩ := hJ
  subst j6
  have l4 := (List.getElem?_eq_some_iff.mp j4).1
  -- the empty sum and the reversed one
  have sm0 : F__law_sum_holds [.loc s4.length] (s4 ++ [Cell.lst []]) = .ok (.bl true) (s4 ++ [Cell.lst []]) := sum_ok (xs := []) (by simp) (by simp) (by simp)
  have h5 : (s4 ++ [Cell.lst []])[4]? = some (.lst (xs.map mo)) := by rw [List.getElem?_append_left l4]; exact j4
  have rv : revD' (.loc 4) (s4 ++ [Cell.lst []]) = .ok (.loc (s4 ++ [Cell.lst []]).length) ((s4 ++ [Cell.lst []]) ++ [.lst (xs.reverse.map mo)]) := by
    simp only [revD', h5, List.map_reverse]
  have sm1 : F__law_sum_holds [.loc (s4 ++ [Cell.lst []]).length] ((s4 ++ [Cell.lst []]) ++ [.lst (xs.reverse.map mo)]) = .ok (.bl true) ((s4 ++ [Cell.lst []]) ++ [.lst (xs.reverse.map mo)]) := sum_ok (xs := xs.reverse) (by simp) (fun x hx => q2 x (by simpa using hx)) (by simpa using x5)
  obtain ⟨s5, hs5⟩ : ∃ s5, s5 = (s4 ++ [Cell.lst []]) ++ [Cell.lst (xs.reverse.map mo)] := ⟨_, rfl⟩
  rw [← hs5] at rv sm1
  have h6 : s5[4]? = some (.lst (xs.map mo)) := by
    rw [hs5, List.getElem?_append_left (by simp; omega)]; exact h5
  have B5 : Box s5 3 0 10 := by
    rw [hs5]; exact ((j5.app _).app _).mono (by omega)
  obtain ⟨y, hy, a0⟩ : ∃ y, y ∈ xs ∧ atI (xs.map mo) 0 = some (mo y) := by
    cases xs with
    | nil => simp at x1
    | cons y ys => exact ⟨y, by simp, atI_0 _ _⟩
  have i0 := ix_l h6 a0
  have My := q2 y hy
  have lo : loD y.1 y.2 = mo y := by
    unfold loD
    rw [My.g, Int.ediv_one, Int.ediv_one]
  have mm := moment_ok s5 My.t My.b (lt9000 My.b6 (by decide))
  rw [lo] at mm
  obtain ⟨s6, e6⟩ := wrong_ok (n := 5) B5
  have body : B_law [.d (.fls (ns.map D.int)), .un, .un, .un] [] = .rt (.bl true) s6 := by
    unfold B_law
    rw [seq_nx (ρ' := [.d (.fls (ns.map D.int)), .d (.loc 3), .un, .un]) (s' := s0) (by simp only [S_law_0, DL.kSeq_0, DL.kSeq_1, DL.kSeq_2, DL.kSeq_3, DL.kSeq_4, DL.sSeq_k, DL.sSkip_k, DL.sBreak_k, DL.sCont_k, DL.sRetN_k, DL.kExpr_0, DL.kExpr_1, DL.sExpr_k, DL.kRet_0, DL.kRet_1, DL.sRet_k, DL.kIf_0, DL.kIf_1, DL.kIf_2, DL.sIf_k, DL.kAsg2_0, DL.kAsg_0, DL.kAsg_1, DL.sAsg_k, DL.sSet_k, DL.gN_k, DL.gsN_k, DL.kG_0, DL.gsC_k, DL.gT_k, DL.kPut4_0, DL.kPut3_0, DL.kPut3_1, DL.kPut2_0, DL.kPut2_1, DL.kPut_0, DL.kPut_1, DL.sPut_k, DL.sPar_k, DL.kVar_0, DL.eVar_k, DL.eC_k, DL.kUn_0, DL.kUn_1, DL.eUn_k, DL.eIsi_k, DL.kBin2_0, DL.kBin2_1, DL.kBin_0, DL.kBin_1, DL.eBin_k, DL.aNil_k, DL.kCons2_0, DL.kCons2_1, DL.kCons_0, DL.kCons_1, DL.aCons_k, DL.kApp_0, DL.kApp_1, DL.eApp_k, DL.kMt2_0, DL.kMt2_1, DL.kMt1_0, DL.kMt_0, DL.kMt_1, DL.eMt_k, DL.kTru_0, DL.kTru_1, DL.tTru_k, DL.kAnd_0, DL.kAnd_1, DL.kAnd_2, DL.tAndF_k, DL.kOr_0, DL.kOr_1, DL.kOr_2, DL.tOrF_k, DL.kNot_0, DL.kNot_1, DL.kNot_2, DL.tNotF_k, DL.kEIf_0, DL.kEIf_1, DL.kEIf_2, DL.eIf_k, DL.kEAnd2_0, DL.kEAnd2_1, DL.kEAnd2_2, DL.kEAnd_0, DL.kEAnd_1, DL.eAnd_k, DL.kEOr2_0, DL.kEOr2_1, DL.kEOr2_2, DL.kEOr_0, DL.kEOr_1, DL.eOr_k, DL.kENot2_0, DL.kENot2_1, DL.kENot2_2, DL.kENot_0, DL.kENot_1, DL.eNot_k, DL.kSl3_0, DL.kSl3_1, DL.kSl2_0, DL.kSl2_1, DL.kSl_0, DL.kSl_1, DL.eSl_k, DL.oNone_k, DL.kOS_0, DL.kOS_1, DL.oSome_k, DL.kKw2_0, DL.kKw2_1, DL.kKw_0, DL.kKw_1, DL.eKw_k, DL.truD_bl, DL.blD_bl, DL.addD_i, DL.subD_i, DL.ltI_i, DL.leI_i, DL.gtI_i, DL.geI_i, DL.negD_i, DL.intD_i, DL.intD_b, DL.max2D_i, DL.min2D_i, DL.gcdD_i, DL.lenD_t, DL.lenD_f, DL.isD_nn, DL.isD_in, DL.isD_tn, DL.isD_bn, DL.isD_sn, DL.isD_ib, DL.isD_tb, DL.isD_bb, DL.isD_sb, DL.isD_nb, DL.isnD_bb, DL.isi_i, DL.isi_b, DL.isi_t, DL.isi_s, DL.isi_n, DL.isTy_ii, DL.isTy_bi, DL.isTy_ib, DL.isTy_bb, DL.isTy_tt, DL.isTy_it, DL.isTy_bt, DL.isTy_ti, DL.isTy_is, DL.isTy_bs, DL.isTy_ss, DL.isTy_st, DL.isTy_nt, DL.isTy_ns, DL.isTy_ni, DL.isTy_ts, DL.isTy_si, DL.isTy_tb, DL.mulD_i, DL.modD_i, DL.fdivD_i, DL.powD_i, DL.tupD_k, DL.lstD_k, DL.fnD_k, DL.endR_rt, DL.endR_nx, DL.endR_ex, List.map_cons, List.map_nil, List.replicate_succ, List.replicate_zero, List.cons_append, List.nil_append, List.getElem?_cons_zero, List.getElem?_cons_succ, List.set_cons_zero, List.set_cons_succ, Nat.reduceSub, Nat.reduceAdd, List.length_cons, List.length_nil, List.any_cons, List.any_nil, Bool.or_false, Bool.or_true, Bool.not_true, Bool.not_false, Nat.reduceLeDiff, Bool.false_or, Bool.true_or, DL.trim_eq, DL.sFor_k, DL.kFor_0, DL.cSrc_k, DL.kSrc_0, DL.cApp_k, DL.kSrcA_0, DL.srcD_t, DL.srcD_f, DL.eqD_ii, DL.neD_ii, DL.ix_t0, DL.ix_t1, e0]),
      seq_nx (ρ' := [.d (.fls (ns.map D.int)), .d (.loc 3), .d (.loc 4), .un]) (s' := s0 ++ [Cell.lst []]) (by simp only [S_law_1, DL.kSeq_0, DL.kSeq_1, DL.kSeq_2, DL.kSeq_3, DL.kSeq_4, DL.sSeq_k, DL.sSkip_k, DL.sBreak_k, DL.sCont_k, DL.sRetN_k, DL.kExpr_0, DL.kExpr_1, DL.sExpr_k, DL.kRet_0, DL.kRet_1, DL.sRet_k, DL.kIf_0, DL.kIf_1, DL.kIf_2, DL.sIf_k, DL.kAsg2_0, DL.kAsg_0, DL.kAsg_1, DL.sAsg_k, DL.sSet_k, DL.gN_k, DL.gsN_k, DL.kG_0, DL.gsC_k, DL.gT_k, DL.kPut4_0, DL.kPut3_0, DL.kPut3_1, DL.kPut2_0, DL.kPut2_1, DL.kPut_0, DL.kPut_1, DL.sPut_k, DL.sPar_k, DL.kVar_0, DL.eVar_k, DL.eC_k, DL.kUn_0, DL.kUn_1, DL.eUn_k, DL.eIsi_k, DL.kBin2_0, DL.kBin2_1, DL.kBin_0, DL.kBin_1, DL.eBin_k, DL.aNil_k, DL.kCons2_0, DL.kCons2_1, DL.kCons_0, DL.kCons_1, DL.aCons_k, DL.kApp_0, DL.kApp_1, DL.eApp_k, DL.kMt2_0, DL.kMt2_1, DL.kMt1_0, DL.kMt_0, DL.kMt_1, DL.eMt_k, DL.kTru_0, DL.kTru_1, DL.tTru_k, DL.kAnd_0, DL.kAnd_1, DL.kAnd_2, DL.tAndF_k, DL.kOr_0, DL.kOr_1, DL.kOr_2, DL.tOrF_k, DL.kNot_0, DL.kNot_1, DL.kNot_2, DL.tNotF_k, DL.kEIf_0, DL.kEIf_1, DL.kEIf_2, DL.eIf_k, DL.kEAnd2_0, DL.kEAnd2_1, DL.kEAnd2_2, DL.kEAnd_0, DL.kEAnd_1, DL.eAnd_k, DL.kEOr2_0, DL.kEOr2_1, DL.kEOr2_2, DL.kEOr_0, DL.kEOr_1, DL.eOr_k, DL.kENot2_0, DL.kENot2_1, DL.kENot2_2, DL.kENot_0, DL.kENot_1, DL.eNot_k, DL.kSl3_0, DL.kSl3_1, DL.kSl2_0, DL.kSl2_1, DL.kSl_0, DL.kSl_1, DL.eSl_k, DL.oNone_k, DL.kOS_0, DL.kOS_1, DL.oSome_k, DL.kKw2_0, DL.kKw2_1, DL.kKw_0, DL.kKw_1, DL.eKw_k, DL.truD_bl, DL.blD_bl, DL.addD_i, DL.subD_i, DL.ltI_i, DL.leI_i, DL.gtI_i, DL.geI_i, DL.negD_i, DL.intD_i, DL.intD_b, DL.max2D_i, DL.min2D_i, DL.gcdD_i, DL.lenD_t, DL.lenD_f, DL.isD_nn, DL.isD_in, DL.isD_tn, DL.isD_bn, DL.isD_sn, DL.isD_ib, DL.isD_tb, DL.isD_bb, DL.isD_sb, DL.isD_nb, DL.isnD_bb, DL.isi_i, DL.isi_b, DL.isi_t, DL.isi_s, DL.isi_n, DL.isTy_ii, DL.isTy_bi, DL.isTy_ib, DL.isTy_bb, DL.isTy_tt, DL.isTy_it, DL.isTy_bt, DL.isTy_ti, DL.isTy_is, DL.isTy_bs, DL.isTy_ss, DL.isTy_st, DL.isTy_nt, DL.isTy_ns, DL.isTy_ni, DL.isTy_ts, DL.isTy_si, DL.isTy_tb, DL.mulD_i, DL.modD_i, DL.fdivD_i, DL.powD_i, DL.tupD_k, DL.lstD_k, DL.fnD_k, DL.endR_rt, DL.endR_nx, DL.endR_ex, List.map_cons, List.map_nil, List.replicate_succ, List.replicate_zero, List.cons_append, List.nil_append, List.getElem?_cons_zero, List.getElem?_cons_succ, List.set_cons_zero, List.set_cons_succ, Nat.reduceSub, Nat.reduceAdd, List.length_cons, List.length_nil, List.any_cons, List.any_nil, Bool.or_false, Bool.or_true, Bool.not_true, Bool.not_false, Nat.reduceLeDiff, Bool.false_or, Bool.true_or, DL.trim_eq, DL.sFor_k, DL.kFor_0, DL.cSrc_k, DL.kSrc_0, DL.cApp_k, DL.kSrcA_0, DL.srcD_t, DL.srcD_f, DL.eqD_ii, DL.neD_ii, DL.ix_t0, DL.ix_t1, l0]),
      seq_nx (ρ' := [.d (.fls (ns.map D.int)), .d (.loc 3), .d (.loc 4), c]) (s' := s3) (by simp only [S_law_2, DL.kSeq_0, DL.kSeq_1, DL.kSeq_2, DL.kSeq_3, DL.kSeq_4, DL.sSeq_k, DL.sSkip_k, DL.sBreak_k, DL.sCont_k, DL.sRetN_k, DL.kExpr_0, DL.kExpr_1, DL.sExpr_k, DL.kRet_0, DL.kRet_1, DL.sRet_k, DL.kIf_0, DL.kIf_1, DL.kIf_2, DL.sIf_k, DL.kAsg2_0, DL.kAsg_0, DL.kAsg_1, DL.sAsg_k, DL.sSet_k, DL.gN_k, DL.gsN_k, DL.kG_0, DL.gsC_k, DL.gT_k, DL.kPut4_0, DL.kPut3_0, DL.kPut3_1, DL.kPut2_0, DL.kPut2_1, DL.kPut_0, DL.kPut_1, DL.sPut_k, DL.sPar_k, DL.kVar_0, DL.eVar_k, DL.eC_k, DL.kUn_0, DL.kUn_1, DL.eUn_k, DL.eIsi_k, DL.kBin2_0, DL.kBin2_1, DL.kBin_0, DL.kBin_1, DL.eBin_k, DL.aNil_k, DL.kCons2_0, DL.kCons2_1, DL.kCons_0, DL.kCons_1, DL.aCons_k, DL.kApp_0, DL.kApp_1, DL.eApp_k, DL.kMt2_0, DL.kMt2_1, DL.kMt1_0, DL.kMt_0, DL.kMt_1, DL.eMt_k, DL.kTru_0, DL.kTru_1, DL.tTru_k, DL.kAnd_0, DL.kAnd_1, DL.kAnd_2, DL.tAndF_k, DL.kOr_0, DL.kOr_1, DL.kOr_2, DL.tOrF_k, DL.kNot_0, DL.kNot_1, DL.kNot_2, DL.tNotF_k, DL.kEIf_0, DL.kEIf_1, DL.kEIf_2, DL.eIf_k, DL.kEAnd2_0, DL.kEAnd2_1, DL.kEAnd2_2, DL.kEAnd_0, DL.kEAnd_1, DL.eAnd_k, DL.kEOr2_0, DL.kEOr2_1, DL.kEOr2_2, DL.kEOr_0, DL.kEOr_1, DL.eOr_k, DL.kENot2_0, DL.kENot2_1, DL.kENot2_2, DL.kENot_0, DL.kENot_1, DL.eNot_k, DL.kSl3_0, DL.kSl3_1, DL.kSl2_0, DL.kSl2_1, DL.kSl_0, DL.kSl_1, DL.eSl_k, DL.oNone_k, DL.kOS_0, DL.kOS_1, DL.oSome_k, DL.kKw2_0, DL.kKw2_1, DL.kKw_0, DL.kKw_1, DL.eKw_k, DL.truD_bl, DL.blD_bl, DL.addD_i, DL.subD_i, DL.ltI_i, DL.leI_i, DL.gtI_i, DL.geI_i, DL.negD_i, DL.intD_i, DL.intD_b, DL.max2D_i, DL.min2D_i, DL.gcdD_i, DL.lenD_t, DL.lenD_f, DL.isD_nn, DL.isD_in, DL.isD_tn, DL.isD_bn, DL.isD_sn, DL.isD_ib, DL.isD_tb, DL.isD_bb, DL.isD_sb, DL.isD_nb, DL.isnD_bb, DL.isi_i, DL.isi_b, DL.isi_t, DL.isi_s, DL.isi_n, DL.isTy_ii, DL.isTy_bi, DL.isTy_ib, DL.isTy_bb, DL.isTy_tt, DL.isTy_it, DL.isTy_bt, DL.isTy_ti, DL.isTy_is, DL.isTy_bs, DL.isTy_ss, DL.isTy_st, DL.isTy_nt, DL.isTy_ns, DL.isTy_ni, DL.isTy_ts, DL.isTy_si, DL.isTy_tb, DL.mulD_i, DL.modD_i, DL.fdivD_i, DL.powD_i, DL.tupD_k, DL.lstD_k, DL.fnD_k, DL.endR_rt, DL.endR_nx, DL.endR_ex, List.map_cons, List.map_nil, List.replicate_succ, List.replicate_zero, List.cons_append, List.nil_append, List.getElem?_cons_zero, List.getElem?_cons_succ, List.set_cons_zero, List.set_cons_succ, Nat.reduceSub, Nat.reduceAdd, List.length_cons, List.length_nil, List.any_cons, List.any_nil, Bool.or_false, Bool.or_true, Bool.not_true, Bool.not_false, Nat.reduceLeDiff, Bool.false_or, Bool.true_or, DL.trim_eq, DL.sFor_k, DL.kFor_0, DL.cSrc_k, DL.kSrc_0, DL.cApp_k, DL.kSrcA_0, DL.srcD_t, DL.srcD_f, DL.eqD_ii, DL.neD_ii, DL.ix_t0, DL.ix_t1, e2, rg]; exact e3),
      seq_nx (ρ' := [.d (.fls (ns.map D.int)), .d (.loc 3), .d (.loc 4), c2]) (s' := s4) (by simp only [S_law_3, DL.kSeq_0, DL.kSeq_1, DL.kSeq_2, DL.kSeq_3, DL.kSeq_4, DL.sSeq_k, DL.sSkip_k, DL.sBreak_k, DL.sCont_k, DL.sRetN_k, DL.kExpr_0, DL.kExpr_1, DL.sExpr_k, DL.kRet_0, DL.kRet_1, DL.sRet_k, DL.kIf_0, DL.kIf_1, DL.kIf_2, DL.sIf_k, DL.kAsg2_0, DL.kAsg_0, DL.kAsg_1, DL.sAsg_k, DL.sSet_k, DL.gN_k, DL.gsN_k, DL.kG_0, DL.gsC_k, DL.gT_k, DL.kPut4_0, DL.kPut3_0, DL.kPut3_1, DL.kPut2_0, DL.kPut2_1, DL.kPut_0, DL.kPut_1, DL.sPut_k, DL.sPar_k, DL.kVar_0, DL.eVar_k, DL.eC_k, DL.kUn_0, DL.kUn_1, DL.eUn_k, DL.eIsi_k, DL.kBin2_0, DL.kBin2_1, DL.kBin_0, DL.kBin_1, DL.eBin_k, DL.aNil_k, DL.kCons2_0, DL.kCons2_1, DL.kCons_0, DL.kCons_1, DL.aCons_k, DL.kApp_0, DL.kApp_1, DL.eApp_k, DL.kMt2_0, DL.kMt2_1, DL.kMt1_0, DL.kMt_0, DL.kMt_1, DL.eMt_k, DL.kTru_0, DL.kTru_1, DL.tTru_k, DL.kAnd_0, DL.kAnd_1, DL.kAnd_2, DL.tAndF_k, DL.kOr_0, DL.kOr_1, DL.kOr_2, DL.tOrF_k, DL.kNot_0, DL.kNot_1, DL.kNot_2, DL.tNotF_k, DL.kEIf_0, DL.kEIf_1, DL.kEIf_2, DL.eIf_k, DL.kEAnd2_0, DL.kEAnd2_1, DL.kEAnd2_2, DL.kEAnd_0, DL.kEAnd_1, DL.eAnd_k, DL.kEOr2_0, DL.kEOr2_1, DL.kEOr2_2, DL.kEOr_0, DL.kEOr_1, DL.eOr_k, DL.kENot2_0, DL.kENot2_1, DL.kENot2_2, DL.kENot_0, DL.kENot_1, DL.eNot_k, DL.kSl3_0, DL.kSl3_1, DL.kSl2_0, DL.kSl2_1, DL.kSl_0, DL.kSl_1, DL.eSl_k, DL.oNone_k, DL.kOS_0, DL.kOS_1, DL.oSome_k, DL.kKw2_0, DL.kKw2_1, DL.kKw_0, DL.kKw_1, DL.eKw_k, DL.truD_bl, DL.blD_bl, DL.addD_i, DL.subD_i, DL.ltI_i, DL.leI_i, DL.gtI_i, DL.geI_i, DL.negD_i, DL.intD_i, DL.intD_b, DL.max2D_i, DL.min2D_i, DL.gcdD_i, DL.lenD_t, DL.lenD_f, DL.isD_nn, DL.isD_in, DL.isD_tn, DL.isD_bn, DL.isD_sn, DL.isD_ib, DL.isD_tb, DL.isD_bb, DL.isD_sb, DL.isD_nb, DL.isnD_bb, DL.isi_i, DL.isi_b, DL.isi_t, DL.isi_s, DL.isi_n, DL.isTy_ii, DL.isTy_bi, DL.isTy_ib, DL.isTy_bb, DL.isTy_tt, DL.isTy_it, DL.isTy_bt, DL.isTy_ti, DL.isTy_is, DL.isTy_bs, DL.isTy_ss, DL.isTy_st, DL.isTy_nt, DL.isTy_ns, DL.isTy_ni, DL.isTy_ts, DL.isTy_si, DL.isTy_tb, DL.mulD_i, DL.modD_i, DL.fdivD_i, DL.powD_i, DL.tupD_k, DL.lstD_k, DL.fnD_k, DL.endR_rt, DL.endR_nx, DL.endR_ex, List.map_cons, List.map_nil, List.replicate_succ, List.replicate_zero, List.cons_append, List.nil_append, List.getElem?_cons_zero, List.getElem?_cons_succ, List.set_cons_zero, List.set_cons_succ, Nat.reduceSub, Nat.reduceAdd, List.length_cons, List.length_nil, List.any_cons, List.any_nil, Bool.or_false, Bool.or_true, Bool.not_true, Bool.not_false, Nat.reduceLeDiff, Bool.false_or, Bool.true_or, DL.trim_eq, DL.sFor_k, DL.kFor_0, DL.cSrc_k, DL.kSrc_0, DL.cApp_k, DL.kSrcA_0, DL.srcD_t, DL.srcD_f, DL.eqD_ii, DL.neD_ii, DL.ix_t0, DL.ix_t1, ln, rg2]; exact e4),
      seq_nx (ρ' := [.d (.fls (ns.map D.int)), .d (.loc 3), .d (.loc 4), c2]) (s' := s5) (by simp only [S_law_4, DL.kSeq_0, DL.kSeq_1, DL.kSeq_2, DL.kSeq_3, DL.kSeq_4, DL.sSeq_k, DL.sSkip_k, DL.sBreak_k, DL.sCont_k, DL.sRetN_k, DL.kExpr_0, DL.kExpr_1, DL.sExpr_k, DL.kRet_0, DL.kRet_1, DL.sRet_k, DL.kIf_0, DL.kIf_1, DL.kIf_2, DL.sIf_k, DL.kAsg2_0, DL.kAsg_0, DL.kAsg_1, DL.sAsg_k, DL.sSet_k, DL.gN_k, DL.gsN_k, DL.kG_0, DL.gsC_k, DL.gT_k, DL.kPut4_0, DL.kPut3_0, DL.kPut3_1, DL.kPut2_0, DL.kPut2_1, DL.kPut_0, DL.kPut_1, DL.sPut_k, DL.sPar_k, DL.kVar_0, DL.eVar_k, DL.eC_k, DL.kUn_0, DL.kUn_1, DL.eUn_k, DL.eIsi_k, DL.kBin2_0, DL.kBin2_1, DL.kBin_0, DL.kBin_1, DL.eBin_k, DL.aNil_k, DL.kCons2_0, DL.kCons2_1, DL.kCons_0, DL.kCons_1, DL.aCons_k, DL.kApp_0, DL.kApp_1, DL.eApp_k, DL.kMt2_0, DL.kMt2_1, DL.kMt1_0, DL.kMt_0, DL.kMt_1, DL.eMt_k, DL.kTru_0, DL.kTru_1, DL.tTru_k, DL.kAnd_0, DL.kAnd_1, DL.kAnd_2, DL.tAndF_k, DL.kOr_0, DL.kOr_1, DL.kOr_2, DL.tOrF_k, DL.kNot_0, DL.kNot_1, DL.kNot_2, DL.tNotF_k, DL.kEIf_0, DL.kEIf_1, DL.kEIf_2, DL.eIf_k, DL.kEAnd2_0, DL.kEAnd2_1, DL.kEAnd2_2, DL.kEAnd_0, DL.kEAnd_1, DL.eAnd_k, DL.kEOr2_0, DL.kEOr2_1, DL.kEOr2_2, DL.kEOr_0, DL.kEOr_1, DL.eOr_k, DL.kENot2_0, DL.kENot2_1, DL.kENot2_2, DL.kENot_0, DL.kENot_1, DL.eNot_k, DL.kSl3_0, DL.kSl3_1, DL.kSl2_0, DL.kSl2_1, DL.kSl_0, DL.kSl_1, DL.eSl_k, DL.oNone_k, DL.kOS_0, DL.kOS_1, DL.oSome_k, DL.kKw2_0, DL.kKw2_1, DL.kKw_0, DL.kKw_1, DL.eKw_k, DL.truD_bl, DL.blD_bl, DL.addD_i, DL.subD_i, DL.ltI_i, DL.leI_i, DL.gtI_i, DL.geI_i, DL.negD_i, DL.intD_i, DL.intD_b, DL.max2D_i, DL.min2D_i, DL.gcdD_i, DL.lenD_t, DL.lenD_f, DL.isD_nn, DL.isD_in, DL.isD_tn, DL.isD_bn, DL.isD_sn, DL.isD_ib, DL.isD_tb, DL.isD_bb, DL.isD_sb, DL.isD_nb, DL.isnD_bb, DL.isi_i, DL.isi_b, DL.isi_t, DL.isi_s, DL.isi_n, DL.isTy_ii, DL.isTy_bi, DL.isTy_ib, DL.isTy_bb, DL.isTy_tt, DL.isTy_it, DL.isTy_bt, DL.isTy_ti, DL.isTy_is, DL.isTy_bs, DL.isTy_ss, DL.isTy_st, DL.isTy_nt, DL.isTy_ns, DL.isTy_ni, DL.isTy_ts, DL.isTy_si, DL.isTy_tb, DL.mulD_i, DL.modD_i, DL.fdivD_i, DL.powD_i, DL.tupD_k, DL.lstD_k, DL.fnD_k, DL.endR_rt, DL.endR_nx, DL.endR_ex, List.map_cons, List.map_nil, List.replicate_succ, List.replicate_zero, List.cons_append, List.nil_append, List.getElem?_cons_zero, List.getElem?_cons_succ, List.set_cons_zero, List.set_cons_succ, Nat.reduceSub, Nat.reduceAdd, List.length_cons, List.length_nil, List.any_cons, List.any_nil, Bool.or_false, Bool.or_true, Bool.not_true, Bool.not_false, Nat.reduceLeDiff, Bool.false_or, Bool.true_or, DL.trim_eq, DL.sFor_k, DL.kFor_0, DL.cSrc_k, DL.kSrc_0, DL.cApp_k, DL.kSrcA_0, DL.srcD_t, DL.srcD_f, DL.eqD_ii, DL.neD_ii, DL.ix_t0, DL.ix_t1, sm0, rv, sm1]),
      seq_nx (ρ' := [.d (.fls (ns.map D.int)), .d (.loc 3), .d (.loc 4), c2]) (s' := s5) (by simp only [S_law_5, DL.kSeq_0, DL.kSeq_1, DL.kSeq_2, DL.kSeq_3, DL.kSeq_4, DL.sSeq_k, DL.sSkip_k, DL.sBreak_k, DL.sCont_k, DL.sRetN_k, DL.kExpr_0, DL.kExpr_1, DL.sExpr_k, DL.kRet_0, DL.kRet_1, DL.sRet_k, DL.kIf_0, DL.kIf_1, DL.kIf_2, DL.sIf_k, DL.kAsg2_0, DL.kAsg_0, DL.kAsg_1, DL.sAsg_k, DL.sSet_k, DL.gN_k, DL.gsN_k, DL.kG_0, DL.gsC_k, DL.gT_k, DL.kPut4_0, DL.kPut3_0, DL.kPut3_1, DL.kPut2_0, DL.kPut2_1, DL.kPut_0, DL.kPut_1, DL.sPut_k, DL.sPar_k, DL.kVar_0, DL.eVar_k, DL.eC_k, DL.kUn_0, DL.kUn_1, DL.eUn_k, DL.eIsi_k, DL.kBin2_0, DL.kBin2_1, DL.kBin_0, DL.kBin_1, DL.eBin_k, DL.aNil_k, DL.kCons2_0, DL.kCons2_1, DL.kCons_0, DL.kCons_1, DL.aCons_k, DL.kApp_0, DL.kApp_1, DL.eApp_k, DL.kMt2_0, DL.kMt2_1, DL.kMt1_0, DL.kMt_0, DL.kMt_1, DL.eMt_k, DL.kTru_0, DL.kTru_1, DL.tTru_k, DL.kAnd_0, DL.kAnd_1, DL.kAnd_2, DL.tAndF_k, DL.kOr_0, DL.kOr_1, DL.kOr_2, DL.tOrF_k, DL.kNot_0, DL.kNot_1, DL.kNot_2, DL.tNotF_k, DL.kEIf_0, DL.kEIf_1, DL.kEIf_2, DL.eIf_k, DL.kEAnd2_0, DL.kEAnd2_1, DL.kEAnd2_2, DL.kEAnd_0, DL.kEAnd_1, DL.eAnd_k, DL.kEOr2_0, DL.kEOr2_1, DL.kEOr2_2, DL.kEOr_0, DL.kEOr_1, DL.eOr_k, DL.kENot2_0, DL.kENot2_1, DL.kENot2_2, DL.kENot_0, DL.kENot_1, DL.eNot_k, DL.kSl3_0, DL.kSl3_1, DL.kSl2_0, DL.kSl2_1, DL.kSl_0, DL.kSl_1, DL.eSl_k, DL.oNone_k, DL.kOS_0, DL.kOS_1, DL.oSome_k, DL.kKw2_0, DL.kKw2_1, DL.kKw_0, DL.kKw_1, DL.eKw_k, DL.truD_bl, DL.blD_bl, DL.addD_i, DL.subD_i, DL.ltI_i, DL.leI_i, DL.gtI_i, DL.geI_i, DL.negD_i, DL.intD_i, DL.intD_b, DL.max2D_i, DL.min2D_i, DL.gcdD_i, DL.lenD_t, DL.lenD_f, DL.isD_nn, DL.isD_in, DL.isD_tn, DL.isD_bn, DL.isD_sn, DL.isD_ib, DL.isD_tb, DL.isD_bb, DL.isD_sb, DL.isD_nb, DL.isnD_bb, DL.isi_i, DL.isi_b, DL.isi_t, DL.isi_s, DL.isi_n, DL.isTy_ii, DL.isTy_bi, DL.isTy_ib, DL.isTy_bb, DL.isTy_tt, DL.isTy_it, DL.isTy_bt, DL.isTy_ti, DL.isTy_is, DL.isTy_bs, DL.isTy_ss, DL.isTy_st, DL.isTy_nt, DL.isTy_ns, DL.isTy_ni, DL.isTy_ts, DL.isTy_si, DL.isTy_tb, DL.mulD_i, DL.modD_i, DL.fdivD_i, DL.powD_i, DL.tupD_k, DL.lstD_k, DL.fnD_k, DL.endR_rt, DL.endR_nx, DL.endR_ex, List.map_cons, List.map_nil, List.replicate_succ, List.replicate_zero, List.cons_append, List.nil_append, List.getElem?_cons_zero, List.getElem?_cons_succ, List.set_cons_zero, List.set_cons_succ, Nat.reduceSub, Nat.reduceAdd, List.length_cons, List.length_nil, List.any_cons, List.any_nil, Bool.or_false, Bool.or_true, Bool.not_true, Bool.not_false, Nat.reduceLeDiff, Bool.false_or, Bool.true_or, DL.trim_eq, DL.sFor_k, DL.kFor_0, DL.cSrc_k, DL.kSrc_0, DL.cApp_k, DL.kSrcA_0, DL.srcD_t, DL.srcD_f, DL.eqD_ii, DL.neD_ii, DL.ix_t0, DL.ix_t1, i0, K_moment, mm, same8 _ _ (gd_mo y)])]
    simp only [S_law_6, DL.kSeq_0, DL.kSeq_1, DL.kSeq_2, DL.kSeq_3, DL.kSeq_4, DL.sSeq_k, DL.sSkip_k, DL.sBreak_k, DL.sCont_k, DL.sRetN_k, DL.kExpr_0, DL.kExpr_1, DL.sExpr_k, DL.kRet_0, DL.kRet_1, DL.sRet_k, DL.kIf_0, DL.kIf_1, DL.kIf_2, DL.sIf_k, DL.kAsg2_0, DL.kAsg_0, DL.kAsg_1, DL.sAsg_k, DL.sSet_k, DL.gN_k, DL.gsN_k, DL.kG_0, DL.gsC_k, DL.gT_k, DL.kPut4_0, DL.kPut3_0, DL.kPut3_1, DL.kPut2_0, DL.kPut2_1, DL.kPut_0, DL.kPut_1, DL.sPut_k, DL.sPar_k, DL.kVar_0, DL.eVar_k, DL.eC_k, DL.kUn_0, DL.kUn_1, DL.eUn_k, DL.eIsi_k, DL.kBin2_0, DL.kBin2_1, DL.kBin_0, DL.kBin_1, DL.eBin_k, DL.aNil_k, DL.kCons2_0, DL.kCons2_1, DL.kCons_0, DL.kCons_1, DL.aCons_k, DL.kApp_0, DL.kApp_1, DL.eApp_k, DL.kMt2_0, DL.kMt2_1, DL.kMt1_0, DL.kMt_0, DL.kMt_1, DL.eMt_k, DL.kTru_0, DL.kTru_1, DL.tTru_k, DL.kAnd_0, DL.kAnd_1, DL.kAnd_2, DL.tAndF_k, DL.kOr_0, DL.kOr_1, DL.kOr_2, DL.tOrF_k, DL.kNot_0, DL.kNot_1, DL.kNot_2, DL.tNotF_k, DL.kEIf_0, DL.kEIf_1, DL.kEIf_2, DL.eIf_k, DL.kEAnd2_0, DL.kEAnd2_1, DL.kEAnd2_2, DL.kEAnd_0, DL.kEAnd_1, DL.eAnd_k, DL.kEOr2_0, DL.kEOr2_1, DL.kEOr2_2, DL.kEOr_0, DL.kEOr_1, DL.eOr_k, DL.kENot2_0, DL.kENot2_1, DL.kENot2_2, DL.kENot_0, DL.kENot_1, DL.eNot_k, DL.kSl3_0, DL.kSl3_1, DL.kSl2_0, DL.kSl2_1, DL.kSl_0, DL.kSl_1, DL.eSl_k, DL.oNone_k, DL.kOS_0, DL.kOS_1, DL.oSome_k, DL.kKw2_0, DL.kKw2_1, DL.kKw_0, DL.kKw_1, DL.eKw_k, DL.truD_bl, DL.blD_bl, DL.addD_i, DL.subD_i, DL.ltI_i, DL.leI_i, DL.gtI_i, DL.geI_i, DL.negD_i, DL.intD_i, DL.intD_b, DL.max2D_i, DL.min2D_i, DL.gcdD_i, DL.lenD_t, DL.lenD_f, DL.isD_nn, DL.isD_in, DL.isD_tn, DL.isD_bn, DL.isD_sn, DL.isD_ib, DL.isD_tb, DL.isD_bb, DL.isD_sb, DL.isD_nb, DL.isnD_bb, DL.isi_i, DL.isi_b, DL.isi_t, DL.isi_s, DL.isi_n, DL.isTy_ii, DL.isTy_bi, DL.isTy_ib, DL.isTy_bb, DL.isTy_tt, DL.isTy_it, DL.isTy_bt, DL.isTy_ti, DL.isTy_is, DL.isTy_bs, DL.isTy_ss, DL.isTy_st, DL.isTy_nt, DL.isTy_ns, DL.isTy_ni, DL.isTy_ts, DL.isTy_si, DL.isTy_tb, DL.mulD_i, DL.modD_i, DL.fdivD_i, DL.powD_i, DL.tupD_k, DL.lstD_k, DL.fnD_k, DL.endR_rt, DL.endR_nx, DL.endR_ex, List.map_cons, List.map_nil, List.replicate_succ, List.replicate_zero, List.cons_append, List.nil_append, List.getElem?_cons_zero, List.getElem?_cons_succ, List.set_cons_zero, List.set_cons_succ, Nat.reduceSub, Nat.reduceAdd, List.length_cons, List.length_nil, List.any_cons, List.any_nil, Bool.or_false, Bool.or_true, Bool.not_true, Bool.not_false, Nat.reduceLeDiff, Bool.false_or, Bool.true_or, DL.trim_eq, DL.sFor_k, DL.kFor_0, DL.cSrc_k, DL.kSrc_0, DL.cApp_k, DL.kSrcA_0, DL.srcD_t, DL.srcD_f, DL.eqD_ii, DL.neD_ii, DL.ix_t0, DL.ix_t1, e6]
  have fin : F_law [.fls (ns.map D.int)] [] = trimR [] (.ok (.bl true) s6) := by
    simp only [F_law, DL.kSeq_0, DL.kSeq_1, DL.kSeq_2, DL.kSeq_3, DL.kSeq_4, DL.sSeq_k, DL.sSkip_k, DL.sBreak_k, DL.sCont_k, DL.sRetN_k, DL.kExpr_0, DL.kExpr_1, DL.sExpr_k, DL.kRet_0, DL.kRet_1, DL.sRet_k, DL.kIf_0, DL.kIf_1, DL.kIf_2, DL.sIf_k, DL.kAsg2_0, DL.kAsg_0, DL.kAsg_1, DL.sAsg_k, DL.sSet_k, DL.gN_k, DL.gsN_k, DL.kG_0, DL.gsC_k, DL.gT_k, DL.kPut4_0, DL.kPut3_0, DL.kPut3_1, DL.kPut2_0, DL.kPut2_1, DL.kPut_0, DL.kPut_1, DL.sPut_k, DL.sPar_k, DL.kVar_0, DL.eVar_k, DL.eC_k, DL.kUn_0, DL.kUn_1, DL.eUn_k, DL.eIsi_k, DL.kBin2_0, DL.kBin2_1, DL.kBin_0, DL.kBin_1, DL.eBin_k, DL.aNil_k, DL.kCons2_0, DL.kCons2_1, DL.kCons_0, DL.kCons_1, DL.aCons_k, DL.kApp_0, DL.kApp_1, DL.eApp_k, DL.kMt2_0, DL.kMt2_1, DL.kMt1_0, DL.kMt_0, DL.kMt_1, DL.eMt_k, DL.kTru_0, DL.kTru_1, DL.tTru_k, DL.kAnd_0, DL.kAnd_1, DL.kAnd_2, DL.tAndF_k, DL.kOr_0, DL.kOr_1, DL.kOr_2, DL.tOrF_k, DL.kNot_0, DL.kNot_1, DL.kNot_2, DL.tNotF_k, DL.kEIf_0, DL.kEIf_1, DL.kEIf_2, DL.eIf_k, DL.kEAnd2_0, DL.kEAnd2_1, DL.kEAnd2_2, DL.kEAnd_0, DL.kEAnd_1, DL.eAnd_k, DL.kEOr2_0, DL.kEOr2_1, DL.kEOr2_2, DL.kEOr_0, DL.kEOr_1, DL.eOr_k, DL.kENot2_0, DL.kENot2_1, DL.kENot2_2, DL.kENot_0, DL.kENot_1, DL.eNot_k, DL.kSl3_0, DL.kSl3_1, DL.kSl2_0, DL.kSl2_1, DL.kSl_0, DL.kSl_1, DL.eSl_k, DL.oNone_k, DL.kOS_0, DL.kOS_1, DL.oSome_k, DL.kKw2_0, DL.kKw2_1, DL.kKw_0, DL.kKw_1, DL.eKw_k, DL.truD_bl, DL.blD_bl, DL.addD_i, DL.subD_i, DL.ltI_i, DL.leI_i, DL.gtI_i, DL.geI_i, DL.negD_i, DL.intD_i, DL.intD_b, DL.max2D_i, DL.min2D_i, DL.gcdD_i, DL.lenD_t, DL.lenD_f, DL.isD_nn, DL.isD_in, DL.isD_tn, DL.isD_bn, DL.isD_sn, DL.isD_ib, DL.isD_tb, DL.isD_bb, DL.isD_sb, DL.isD_nb, DL.isnD_bb, DL.isi_i, DL.isi_b, DL.isi_t, DL.isi_s, DL.isi_n, DL.isTy_ii, DL.isTy_bi, DL.isTy_ib, DL.isTy_bb, DL.isTy_tt, DL.isTy_it, DL.isTy_bt, DL.isTy_ti, DL.isTy_is, DL.isTy_bs, DL.isTy_ss, DL.isTy_st, DL.isTy_nt, DL.isTy_ns, DL.isTy_ni, DL.isTy_ts, DL.isTy_si, DL.isTy_tb, DL.mulD_i, DL.modD_i, DL.fdivD_i, DL.powD_i, DL.tupD_k, DL.lstD_k, DL.fnD_k, DL.endR_rt, DL.endR_nx, DL.endR_ex, List.map_cons, List.map_nil, List.replicate_succ, List.replicate_zero, List.cons_append, List.nil_append, List.getElem?_cons_zero, List.getElem?_cons_succ, List.set_cons_zero, List.set_cons_succ, Nat.reduceSub, Nat.reduceAdd, List.length_cons, List.length_nil, List.any_cons, List.any_nil, Bool.or_false, Bool.or_true, Bool.not_true, Bool.not_false, Nat.reduceLeDiff, Bool.false_or, Bool.true_or, DL.trim_eq, DL.sFor_k, DL.kFor_0, DL.cSrc_k, DL.kSrc_0, DL.cApp_k, DL.kSrcA_0, DL.srcD_t, DL.srcD_f, DL.eqD_ii, DL.neD_ii, DL.ix_t0, DL.ix_t1]
    rw [body]
    rfl
  rw [fin]
  rcases trim_any (.bl true) [] s6 with h | ⟨_, h⟩
  · exact ⟨_, h⟩
  · exact ⟨_, h⟩

end K00

namespace K00
open PySem PySem.Spec PyProof.Rows L2 DL
def top (i : Nat) : Stmt := PySem.Challenge.pw_bellrest_k00_moments.main.body.getD i (.Pass ⟨0, 0, 0, 0⟩)
abbrev s_is_whole : Stmt := top 8
abbrev s_is_moment : Stmt := top 9
abbrev s_moment : Stmt := top 10
abbrev s_added : Stmt := top 11
abbrev s_since : Stmt := top 12
abbrev s_compared : Stmt := top 13
abbrev s_halfway : Stmt := top 14
abbrev s_whole_and_part : Stmt := top 15
abbrev s__law_box : Stmt := top 17
abbrev s__law_draw : Stmt := top 18
abbrev s__law_pick : Stmt := top 19
abbrev s__law_same : Stmt := top 20
abbrev s__law_gcd : Stmt := top 21
abbrev s__law_lowest : Stmt := top 22
abbrev s__law_wide : Stmt := top 23
abbrev s__law_fraction : Stmt := top 24
abbrev s__law_made : Stmt := top 25
abbrev s__law_rest : Stmt := top 26
abbrev s__law_total : Stmt := top 27
abbrev s__law_one_holds : Stmt := top 28
abbrev s__law_two_hold : Stmt := top 29
abbrev s__law_sum_holds : Stmt := top 30
abbrev s__law_wrong_holds : Stmt := top 31
abbrev s_law : Stmt := top 32
structure Txt (P : Program) (Z : SC) (mg : Str → Option Value) : Prop where
  m_isinstance : mg "isinstance" = none
  m_int : mg "int" = none
  m_bool : mg "bool" = none
  m_tuple : mg "tuple" = none
  m_len : mg "len" = none
  m_all : mg "all" = none
  m_range : mg "range" = none
  m_str : mg "str" = none
  m_max : mg "max" = none
  m_ValueError : mg "ValueError" = none
  m_list : mg "list" = none
  m_reversed : mg "reversed" = none
  m_super : mg "super" = none
  m_gcd : mg "gcd" = some (.builtin "math.gcd")
  g_ZERO : GlD Z.K mg "ZERO" (.tup [(.int 0), (.int 1)])
  c_BellError : mg "BellError" = some (.ref (He.ga Z.K "BellError"))
  c_InvalidMoment : mg "InvalidMoment" = some (.ref (He.ga Z.K "InvalidMoment"))
  c_Backwards : mg "Backwards" = some (.ref (He.ga Z.K "Backwards"))
  c_InvalidSpan : mg "InvalidSpan" = some (.ref (He.ga Z.K "InvalidSpan"))
  z_InvalidMoment : Z.cls "InvalidMoment" = some (He.ga Z.K "InvalidMoment")
  k_InvalidMoment : Makes P Z.K mg (He.ga Z.K "InvalidMoment") ["value"]
  z_Backwards : Z.cls "Backwards" = some (He.ga Z.K "Backwards")
  k_Backwards : Makes P Z.K mg (He.ga Z.K "Backwards") ["first", "second"]
  s_InvalidMoment : Catch Z (.ref (He.ga Z.K "InvalidMoment")) is_InvalidMoment ∧ IsX Z (.ref (He.ga Z.K "InvalidMoment")) is_InvalidMoment
  s_BellError : Catch Z (.ref (He.ga Z.K "BellError")) is_BellError ∧ IsX Z (.ref (He.ga Z.K "BellError")) is_BellError
  s_ValueError : Catch Z (.type "ValueError") is_ValueError ∧ IsX Z (.type "ValueError") is_ValueError
  s_Backwards : Catch Z (.ref (He.ga Z.K "Backwards")) is_Backwards ∧ IsX Z (.ref (He.ga Z.K "Backwards")) is_Backwards
  s_InvalidSpan : Catch Z (.ref (He.ga Z.K "InvalidSpan")) is_InvalidSpan ∧ IsX Z (.ref (He.ga Z.K "InvalidSpan")) is_InvalidSpan
  sp : SupP P mg
  tab : XTab Z ["value", "second", "first"]
section
variable {P : Program} {w : World} {Z : SC} {mg : Str → Option Value} {base : Heap}
theorem sc_is_whole : FnScope ["value"] ["value"] (defScope s_is_whole) := ⟨rfl, rfl, rfl, by decide +kernel, rfl, by decide +kernel, by decide +kernel⟩
theorem ok_is_whole (T : Txt P Z mg) {f : Addr} {fd : FuncData} (Fn : FunD Z.K "is_whole" "is_whole" (defArgs s_is_whole) (defBody s_is_whole) (defScope s_is_whole) [] [] f fd) (hm : mg "is_whole" = some (.ref f))  : Own P w Z mg base 1 "is_whole" F_is_whole :=
  own_ok Fn hm sc_is_whole (fun _ _ _ _ _ _ us hl => match us, hl with | [_], _ => rfl) fun cdv A outer s H E hr tk => by
    exact (d_one (d_ret (d_andV (d_isi .int rfl (by decide) (d_var 0) T.m_isinstance T.m_int) (pe_one (d_notV (d_isi .bool rfl (by decide) (d_var 0) T.m_isinstance T.m_bool) rfl)) rfl)))
theorem sc_is_moment : FnScope ["value", "numerator", "denominator"] ["value"] (defScope s_is_moment) := ⟨rfl, rfl, rfl, by decide +kernel, rfl, by decide +kernel, by decide +kernel⟩
theorem ok_is_moment (T : Txt P Z mg) {f : Addr} {fd : FuncData} (Fn : FunD Z.K "is_moment" "is_moment" (defArgs s_is_moment) (defBody s_is_moment) (defScope s_is_moment) [] [] f fd) (hm : mg "is_moment" = some (.ref f)) (O_is_whole : Own P w Z mg base 1 "is_whole" F_is_whole) : Own P w Z mg base 2 "is_moment" F_is_moment :=
  own_ok Fn hm sc_is_moment (fun _ _ _ _ _ _ us hl => match us, hl with | [_], _ => rfl) fun cdv A outer s H E hr tk => by
    exact (d_seq (d_sif (PW.pt (d_or (d_not (d_test (d_isi .tuple rfl (by decide) (d_var 0) T.m_isinstance T.m_tuple) rfl)) (pw_or1 (t_ne hr (d_len T.m_len (d_cons (d_var 0) d_nil)) d_int)))) (d_one (d_ret d_bl)) d_snil)
    (d_seq (d_asg (d_var 0) (d_gtup rfl rfl (d_gcons (d_gname 1 sc_is_moment.nd) (d_gcons (d_gname 2 sc_is_moment.nd) d_gnil)) (gsC_len (gsC_len gsN_len))))
    (d_seq (d_sif (PW.pt (d_or (d_not (d_test (d_own O_is_whole hr tk (d_cons (d_var 1) d_nil)) rfl)) (pw_or1 (d_not (d_test (d_own O_is_whole hr tk (d_cons (d_var 2) d_nil)) rfl))))) (d_one (d_ret d_bl)) d_snil)
    (d_one (d_ret (d_andV (d_ge (d_var 1) d_int) (d_andV (d_ge (d_var 2) d_int) (pe_one (d_eq hr (d_gcd T.m_gcd (d_cons (d_var 1) (d_cons (d_var 2) d_nil))) d_int)) rfl) rfl))))))
theorem sc_moment : FnScope ["numerator", "denominator", "shared"] ["numerator", "denominator"] (defScope s_moment) := ⟨rfl, rfl, rfl, by decide +kernel, rfl, by decide +kernel, by decide +kernel⟩
theorem okF_moment (T : Txt P Z mg) {f : Addr} {fd : FuncData} (Fn : FunD Z.K "moment" "moment" (defArgs s_moment) (defBody s_moment) (defScope s_moment) [(.int 1)] [] f fd)  : FnOk P w Z.K mg base (L2.CX P w) 1 f fd ["numerator", "denominator"] (spD Z F_moment) :=
  fnok_of Fn sc_moment fun cdv A outer s H E hr tk => by
    exact (d_seq (d_sif (PW.pt (d_or (t_lt (d_var 0) d_int) (pw_or1 (t_lt (d_var 1) d_int)))) (d_one (d_raise T.z_InvalidMoment T.k_InvalidMoment T.c_InvalidMoment T.sp hr tk (d_cons (d_tup (d_cons (d_var 0) (d_cons (d_var 1) d_nil))) d_nil))) d_snil)
    (d_seq (d_set 2 sc_moment.nd (d_gcd T.m_gcd (d_cons (d_var 0) (d_cons (d_var 1) d_nil))))
    (d_one (d_ret (d_tup (d_cons (d_fdiv (d_var 0) (d_var 2)) (d_cons (d_fdiv (d_var 1) (d_var 2)) d_nil)))))))
theorem ok_moment (T : Txt P Z mg) {f : Addr} {fd : FuncData} (Fn : FunD Z.K "moment" "moment" (defArgs s_moment) (defBody s_moment) (defScope s_moment) [(.int 1)] [] f fd) (hm : mg "moment" = some (.ref f))  : Own P w Z mg base 1 "moment" G_moment :=
  ⟨f, (fnR_dfl Fn (okF_moment T Fn ) 2 1 (by simp) (by rfl) (fun _ _ _ _ _ _ _ us its hl hi => match us, its, hl, hi with | [_, _], [_], _, _ => ⟨_, rfl, rfl⟩) (fun _ _ => .nil) (fnR_dfl Fn (okF_moment T Fn ) 1 0 (by simp) (by rfl) (fun _ _ _ _ _ _ _ us its hl hi => match us, its, hl, hi with | [_], [_], _, _ => ⟨_, rfl, rfl⟩) (fun _ _ => (.cons (.int _) .nil)) fnR_no)), hm, Fn.kp⟩
theorem okK_moment_1_denominator (T : Txt P Z mg) {f : Addr} {fd : FuncData} (Fn : FunD Z.K "moment" "moment" (defArgs s_moment) (defBody s_moment) (defScope s_moment) [(.int 1)] [] f fd) (hm : mg "moment" = some (.ref f))  : OwnK P w Z mg base 1 "moment" 1 ["denominator"] K_moment_1_denominator :=
  ownk_ok (dds := [(.int 1)]) Fn hm (okF_moment T Fn ) 1 ["denominator"] (fun us ds ws => us ++ (((ws.drop 0).take 1))) (fun r1 rd rz => r1.append ((rz.drop 0).take 1)) (fun r1 rd rz => r1.append ((rz.drop 0).take 1)) (by simp) (fun _ _ _ _ _ _ _ us its ws h1 h2 h3 => match us, its, ws, h1, h2, h3 with | [_], [_], [_], _, _, _ => ⟨_, rfl, rfl⟩) (fun _ _ => (.cons (.int _) .nil))
theorem sc_added : FnScope ["moments", "total", "numerator", "denominator"] ["moments"] (defScope s_added) := ⟨rfl, rfl, rfl, by decide +kernel, rfl, by decide +kernel, by decide +kernel⟩
theorem ok_added (T : Txt P Z mg) {f : Addr} {fd : FuncData} (Fn : FunD Z.K "added" "added" (defArgs s_added) (defBody s_added) (defScope s_added) [] [] f fd) (hm : mg "added" = some (.ref f)) (O_moment : Own P w Z mg base 1 "moment" G_moment) : Own P w Z mg base 2 "added" G_added :=
  own_star (ps := []) Fn hm sc_added (fun _ _ _ _ _ _ us rest hl => match us, rest, hl with | [], [], _ => rfl | [], _ :: _, _ => rfl) fun cdv A outer s H E hr tk => by
    exact (d_seq (d_set 1 sc_added.nd (d_glD T.g_ZERO))
    (d_seq (d_for (passes_of rfl) rfl (d_src rfl (d_var 0)) (d_gtup rfl rfl (d_gcons (d_gname 2 sc_added.nd) (d_gcons (d_gname 3 sc_added.nd) d_gnil)) (gsC_len (gsC_len gsN_len))) (d_one (d_set 1 sc_added.nd (d_own O_moment hr tk (d_cons (d_add (d_mul (d_ix (d_var 1) d_int) (d_var 3)) (d_mul (d_var 2) (d_ix (d_var 1) d_int))) (d_cons (d_mul (d_ix (d_var 1) d_int) (d_var 3)) d_nil))))))
    (d_one (d_ret (d_var 1)))))
theorem sc_since : FnScope ["first", "second", "difference"] ["first", "second"] (defScope s_since) := ⟨rfl, rfl, rfl, by decide +kernel, rfl, by decide +kernel, by decide +kernel⟩
theorem ok_since (T : Txt P Z mg) {f : Addr} {fd : FuncData} (Fn : FunD Z.K "since" "since" (defArgs s_since) (defBody s_since) (defScope s_since) [] [] f fd) (hm : mg "since" = some (.ref f)) (O_moment : Own P w Z mg base 1 "moment" G_moment) : Own P w Z mg base 2 "since" F_since :=
  own_ok Fn hm sc_since (fun _ _ _ _ _ _ us hl => match us, hl with | [_, _], _ => rfl) fun cdv A outer s H E hr tk => by
    exact (d_seq (d_set 2 sc_since.nd (d_sub (d_mul (d_ix (d_var 1) d_int) (d_ix (d_var 0) d_int)) (d_mul (d_ix (d_var 0) d_int) (d_ix (d_var 1) d_int))))
    (d_seq (d_sif (t_lt (d_var 2) d_int) (d_one (d_raise T.z_Backwards T.k_Backwards T.c_Backwards T.sp hr tk (d_cons (d_var 0) (d_cons (d_var 1) d_nil)))) d_snil)
    (d_one (d_ret (d_own O_moment hr tk (d_cons (d_var 2) (d_cons (d_mul (d_ix (d_var 0) d_int) (d_ix (d_var 1) d_int)) d_nil)))))))
theorem sc_compared : FnScope ["first", "second", "difference"] ["first", "second"] (defScope s_compared) := ⟨rfl, rfl, rfl, by decide +kernel, rfl, by decide +kernel, by decide +kernel⟩
theorem ok_compared (T : Txt P Z mg) {f : Addr} {fd : FuncData} (Fn : FunD Z.K "compared" "compared" (defArgs s_compared) (defBody s_compared) (defScope s_compared) [] [] f fd) (hm : mg "compared" = some (.ref f))  : Own P w Z mg base 1 "compared" F_compared :=
  own_ok Fn hm sc_compared (fun _ _ _ _ _ _ us hl => match us, hl with | [_, _], _ => rfl) fun cdv A outer s H E hr tk => by
    exact (d_seq (d_set 2 sc_compared.nd (d_sub (d_mul (d_ix (d_var 0) d_int) (d_ix (d_var 1) d_int)) (d_mul (d_ix (d_var 1) d_int) (d_ix (d_var 0) d_int))))
    (d_seq (d_sif (t_lt (d_var 2) d_int) (d_one (d_ret (d_neg d_int))) d_snil)
    (d_one (d_ret (d_if (t_gt (d_var 2) d_int) d_int d_int)))))
theorem sc_halfway : FnScope ["first", "second"] ["first", "second"] (defScope s_halfway) := ⟨rfl, rfl, rfl, by decide +kernel, rfl, by decide +kernel, by decide +kernel⟩
theorem ok_halfway (T : Txt P Z mg) {f : Addr} {fd : FuncData} (Fn : FunD Z.K "halfway" "halfway" (defArgs s_halfway) (defBody s_halfway) (defScope s_halfway) [] [] f fd) (hm : mg "halfway" = some (.ref f)) (O_moment : Own P w Z mg base 1 "moment" G_moment) : Own P w Z mg base 2 "halfway" F_halfway :=
  own_ok Fn hm sc_halfway (fun _ _ _ _ _ _ us hl => match us, hl with | [_, _], _ => rfl) fun cdv A outer s H E hr tk => by
    exact (d_one (d_ret (d_own O_moment hr tk (d_cons (d_add (d_mul (d_ix (d_var 0) d_int) (d_ix (d_var 1) d_int)) (d_mul (d_ix (d_var 1) d_int) (d_ix (d_var 0) d_int))) (d_cons (d_mul (d_mul d_int (d_ix (d_var 0) d_int)) (d_ix (d_var 1) d_int)) d_nil)))))
theorem sc_whole_and_part : FnScope ["moment", "numerator", "denominator"] ["moment"] (defScope s_whole_and_part) := ⟨rfl, rfl, rfl, by decide +kernel, rfl, by decide +kernel, by decide +kernel⟩
theorem ok_whole_and_part (T : Txt P Z mg) {f : Addr} {fd : FuncData} (Fn : FunD Z.K "whole_and_part" "whole_and_part" (defArgs s_whole_and_part) (defBody s_whole_and_part) (defScope s_whole_and_part) [] [] f fd) (hm : mg "whole_and_part" = some (.ref f))  : Own P w Z mg base 1 "whole_and_part" F_whole_and_part :=
  own_ok Fn hm sc_whole_and_part (fun _ _ _ _ _ _ us hl => match us, hl with | [_], _ => rfl) fun cdv A outer s H E hr tk => by
    exact (d_seq (d_asg (d_var 0) (d_gtup rfl rfl (d_gcons (d_gname 1 sc_whole_and_part.nd) (d_gcons (d_gname 2 sc_whole_and_part.nd) d_gnil)) (gsC_len (gsC_len gsN_len))))
    (d_one (d_ret (d_tup (d_cons (d_fdiv (d_var 1) (d_var 2)) (d_cons (d_tup (d_cons (d_mod (d_var 1) (d_var 2)) (d_cons (d_var 2) d_nil))) d_nil))))))
theorem sc__law_box : FnScope ["_law_script", "_law_great", "_law_state", "_law_cell"] ["_law_script"] (defScope s__law_box) := ⟨rfl, rfl, rfl, by decide +kernel, rfl, by decide +kernel, by decide +kernel⟩
theorem ok__law_box (T : Txt P Z mg) {f : Addr} {fd : FuncData} (Fn : FunD Z.K "_law_box" "_law_box" (defArgs s__law_box) (defBody s__law_box) (defScope s__law_box) [] [] f fd) (hm : mg "_law_box" = some (.ref f))  : Own P w Z mg base 1 "_law_box" F__law_box :=
  own_ok Fn hm sc__law_box (fun _ _ _ _ _ _ us hl => match us, hl with | [_], _ => rfl) fun cdv A outer s H E hr tk => by
    exact (d_seq (d_set 1 sc__law_box.nd (d_lst d_nil))
    (d_seq (d_set 2 sc__law_box.nd (d_add d_int (d_len T.m_len (d_cons (d_sl (d_var 0) d_onone (d_osome d_int)) d_nil))))
    (d_seq (d_for (passes_of rfl) rfl (d_src rfl (d_sl (d_var 0) d_onone (d_osome d_int))) (d_gname 3 sc__law_box.nd) (d_one (d_sif (t_ge (d_var 3) (d_pow d_int d_int)) (d_one (d_expr (d_append (d_var 1) (d_cons (d_var 3) d_nil)))) (d_one (d_set 2 sc__law_box.nd (d_mod (d_toint T.m_int (d_cons (d_add (d_add (d_mul (d_var 2) d_int) (d_mul (d_var 3) d_int)) d_int) d_nil)) d_int))))))
    (d_seq (d_expr (d_reverse (d_var 1)))
    (d_one (d_ret (d_lst (d_cons d_int (d_cons (d_var 1) (d_cons (d_var 2) (d_cons d_int d_nil)))))))))))
theorem sc__law_draw : FnScope ["_law_box_here", "_law_size", "_law_digit", "_law_mixed"] ["_law_box_here", "_law_size"] (defScope s__law_draw) := ⟨rfl, rfl, rfl, by decide +kernel, rfl, by decide +kernel, by decide +kernel⟩
theorem ok__law_draw (T : Txt P Z mg) {f : Addr} {fd : FuncData} (Fn : FunD Z.K "_law_draw" "_law_draw" (defArgs s__law_draw) (defBody s__law_draw) (defScope s__law_draw) [] [] f fd) (hm : mg "_law_draw" = some (.ref f))  : Own P w Z mg base 1 "_law_draw" F__law_draw :=
  own_ok Fn hm sc__law_draw (fun _ _ _ _ _ _ us hl => match us, hl with | [_, _], _ => rfl) fun cdv A outer s H E hr tk => by
    exact (d_seq (d_sif (PW.pt (d_and (t_lt (d_ix (d_var 0) d_int) d_int) (pw_and1 (t_ne hr (d_ix (d_var 0) d_int) (d_lst d_nil))))) (d_one (d_put (d_var 0) d_int (d_pop (d_ix (d_var 0) d_int)))) d_snil)
    (d_seq (d_sif (t_gt (d_ix (d_var 0) d_int) d_int) (d_seq (d_set 2 sc__law_draw.nd (d_mod (d_toint T.m_int (d_cons (d_ix (d_var 0) d_int) d_nil)) (d_var 1)))
    (d_seq (d_put (d_var 0) d_int (d_fdiv (d_ix (d_var 0) d_int) (d_var 1)))
    (d_one (d_ret (d_var 2))))) d_snil)
    (d_seq (d_put (d_var 0) d_int (d_add (d_ix (d_var 0) d_int) d_int))
    (d_seq (d_put (d_var 0) d_int (d_mod (d_toint T.m_int (d_cons (d_add (d_add (d_mul (d_ix (d_var 0) d_int) d_int) (d_mul (d_ix (d_var 0) d_int) d_int)) d_int) d_nil)) d_int))
    (d_seq (d_set 3 sc__law_draw.nd (d_mod (d_toint T.m_int (d_cons (d_add (d_add (d_mul (d_ix (d_var 0) d_int) d_int) (d_mul (d_ix (d_var 0) d_int) d_int)) d_int) d_nil)) d_int))
    (d_one (d_ret (d_mod (d_fdiv (d_var 3) d_int) (d_var 1)))))))))
theorem sc__law_pick : FnScope ["_law_box_here", "_law_row"] ["_law_box_here", "_law_row"] (defScope s__law_pick) := ⟨rfl, rfl, rfl, by decide +kernel, rfl, by decide +kernel, by decide +kernel⟩
theorem ok__law_pick (T : Txt P Z mg) {f : Addr} {fd : FuncData} (Fn : FunD Z.K "_law_pick" "_law_pick" (defArgs s__law_pick) (defBody s__law_pick) (defScope s__law_pick) [] [] f fd) (hm : mg "_law_pick" = some (.ref f)) (O__law_draw : Own P w Z mg base 1 "_law_draw" F__law_draw) : Own P w Z mg base 2 "_law_pick" F__law_pick :=
  own_ok Fn hm sc__law_pick (fun _ _ _ _ _ _ us hl => match us, hl with | [_, _], _ => rfl) fun cdv A outer s H E hr tk => by
    exact (d_one (d_ret (d_ix (d_var 1) (d_own O__law_draw hr tk (d_cons (d_var 0) (d_cons (d_len T.m_len (d_cons (d_var 1) d_nil)) d_nil))))))
theorem sc__law_same : FnScope ["_law_actual", "_law_due", "_law_k"] ["_law_actual", "_law_due"] (defScope s__law_same) := ⟨rfl, rfl, rfl, by decide +kernel, rfl, by decide +kernel, by decide +kernel⟩
theorem ok__law_same (T : Txt P Z mg) {f : Addr} {fd : FuncData} (Fn : FunD Z.K "_law_same" "_law_same" (defArgs s__law_same) (defBody s__law_same) (defScope s__law_same) [] [] f fd) (hm : mg "_law_same" = some (.ref f))  : ∀ n, Own P w Z mg base (0 + n) "_law_same" (F__law_same n)
  | 0 => own_no Fn hm
  | n + 1 => by
    have O__law_same := ok__law_same T Fn hm  n
    exact own_ok Fn hm sc__law_same (fun _ _ _ _ _ _ us hl => match us, hl with | [_, _], _ => rfl) fun cdv A outer s H E hr tk => by
      exact (d_seq (d_sif (t_is (d_var 1) d_non) (d_one (d_ret (d_is (d_var 0) d_non))) d_snil)
    (d_seq (d_sif (t_is (d_var 1) d_bl) (d_one (d_ret (d_is (d_var 0) d_bl))) d_snil)
    (d_seq (d_sif (t_is (d_var 1) d_bl) (d_one (d_ret (d_is (d_var 0) d_bl))) d_snil)
    (d_seq (d_sif (d_test (d_isi .tuple rfl (by decide) (d_var 1) T.m_isinstance T.m_tuple) rfl) (d_seq (d_sif (PW.pt (d_or (d_not (d_test (d_isi .tuple rfl (by decide) (d_var 0) T.m_isinstance T.m_tuple) rfl)) (pw_or1 (t_ne hr (d_len T.m_len (d_cons (d_var 0) d_nil)) (d_len T.m_len (d_cons (d_var 1) d_nil)))))) (d_one (d_ret d_bl)) d_snil)
    (d_one (d_ret (d_all T.m_all (d_cons (by exact d_lc rfl sc__law_same.nd (d_rng1 (d_cons (d_len T.m_len (d_cons (d_var 1) d_nil)) d_nil) T.m_range) (by exact blkOk_by (own := [("_law_k", 2)]) (N := ["_law_actual", "_law_due", "_law_k"]) (sc := defScope s__law_same) (by decide +kernel)) (by exact fun _ _ _ _ _ => (d_gnameW 2 sc__law_same.nd)) (by exact fun _ _ _ _ _ => d_tsnil) (by exact fun _ _ _ _ _ => (d_own (O__law_same) hr takes0 (d_cons (d_ix (d_var 0) (d_var 2)) (d_cons (d_ix (d_var 1) (d_var 2)) d_nil))))) d_nil))))) d_snil)
    (d_seq (d_sif (d_test (d_isi .str rfl (by decide) (d_var 1) T.m_isinstance T.m_str) rfl) (d_one (d_ret (d_andV (d_isi .str rfl (by decide) (d_var 0) T.m_isinstance T.m_str) (pe_one (d_eq hr (d_var 0) (d_var 1))) rfl))) d_snil)
    (d_one (d_ret (d_andV (d_isi .int rfl (by decide) (d_var 0) T.m_isinstance T.m_int) (d_andV (d_notV (d_isi .bool rfl (by decide) (d_var 0) T.m_isinstance T.m_bool) rfl) (pe_one (d_eq hr (d_var 0) (d_var 1))) rfl) rfl))))))))
theorem sc__law_gcd : FnScope ["_law_first", "_law_second"] ["_law_first", "_law_second"] (defScope s__law_gcd) := ⟨rfl, rfl, rfl, by decide +kernel, rfl, by decide +kernel, by decide +kernel⟩
theorem ok__law_gcd (T : Txt P Z mg) {f : Addr} {fd : FuncData} (Fn : FunD Z.K "_law_gcd" "_law_gcd" (defArgs s__law_gcd) (defBody s__law_gcd) (defScope s__law_gcd) [] [] f fd) (hm : mg "_law_gcd" = some (.ref f))  : Own P w Z mg base 1 "_law_gcd" F__law_gcd :=
  own_ok Fn hm sc__law_gcd (fun _ _ _ _ _ _ us hl => match us, hl with | [_, _], _ => rfl) fun cdv A outer s H E hr tk => by
    exact (d_seq (d_while (fuelI 1) (passes_of rfl) (t_gt (d_var 1) d_int) (d_one (d_par 0 1 rfl sc__law_gcd.nd (d_cons (d_var 1) (d_cons (d_mod (d_toint T.m_int (d_cons (d_var 0) d_nil)) (d_var 1)) d_nil)))))
    (d_one (d_ret (d_var 0))))
theorem sc__law_lowest : FnScope ["_law_top", "_law_bottom", "_law_common"] ["_law_top", "_law_bottom"] (defScope s__law_lowest) := ⟨rfl, rfl, rfl, by decide +kernel, rfl, by decide +kernel, by decide +kernel⟩
theorem ok__law_lowest (T : Txt P Z mg) {f : Addr} {fd : FuncData} (Fn : FunD Z.K "_law_lowest" "_law_lowest" (defArgs s__law_lowest) (defBody s__law_lowest) (defScope s__law_lowest) [] [] f fd) (hm : mg "_law_lowest" = some (.ref f)) (O__law_gcd : Own P w Z mg base 1 "_law_gcd" F__law_gcd) : Own P w Z mg base 2 "_law_lowest" F__law_lowest :=
  own_ok Fn hm sc__law_lowest (fun _ _ _ _ _ _ us hl => match us, hl with | [_, _], _ => rfl) fun cdv A outer s H E hr tk => by
    exact (d_seq (d_set 2 sc__law_lowest.nd (d_own O__law_gcd hr tk (d_cons (d_var 0) (d_cons (d_var 1) d_nil))))
    (d_one (d_ret (d_tup (d_cons (d_fdiv (d_var 0) (d_var 2)) (d_cons (d_fdiv (d_var 1) (d_var 2)) d_nil))))))
theorem sc__law_wide : FnScope ["_law_box_here"] ["_law_box_here"] (defScope s__law_wide) := ⟨rfl, rfl, rfl, by decide +kernel, rfl, by decide +kernel, by decide +kernel⟩
theorem ok__law_wide (T : Txt P Z mg) {f : Addr} {fd : FuncData} (Fn : FunD Z.K "_law_wide" "_law_wide" (defArgs s__law_wide) (defBody s__law_wide) (defScope s__law_wide) [] [] f fd) (hm : mg "_law_wide" = some (.ref f)) (O__law_draw : Own P w Z mg base 1 "_law_draw" F__law_draw) : Own P w Z mg base 2 "_law_wide" F__law_wide :=
  own_ok Fn hm sc__law_wide (fun _ _ _ _ _ _ us hl => match us, hl with | [_], _ => rfl) fun cdv A outer s H E hr tk => by
    exact (d_one (d_ret (d_add (d_mul (d_own O__law_draw hr tk (d_cons (d_var 0) (d_cons (d_pow d_int d_int) d_nil))) (d_pow d_int d_int)) (d_own O__law_draw hr tk (d_cons (d_var 0) (d_cons (d_pow d_int d_int) d_nil))))))
theorem sc__law_fraction : FnScope ["_law_box_here", "_law_others", "_law_choice", "_law_top", "_law_other", "_law_factor", "_law_change"] ["_law_box_here", "_law_others"] (defScope s__law_fraction) := ⟨rfl, rfl, rfl, by decide +kernel, rfl, by decide +kernel, by decide +kernel⟩
theorem ok__law_fraction (T : Txt P Z mg) {f : Addr} {fd : FuncData} (Fn : FunD Z.K "_law_fraction" "_law_fraction" (defArgs s__law_fraction) (defBody s__law_fraction) (defScope s__law_fraction) [] [] f fd) (hm : mg "_law_fraction" = some (.ref f)) (O__law_draw : Own P w Z mg base 1 "_law_draw" F__law_draw) (O__law_pick : Own P w Z mg base 2 "_law_pick" F__law_pick) (O__law_lowest : Own P w Z mg base 2 "_law_lowest" F__law_lowest) (O__law_wide : Own P w Z mg base 2 "_law_wide" F__law_wide) : Own P w Z mg base 3 "_law_fraction" F__law_fraction :=
  own_ok Fn hm sc__law_fraction (fun _ _ _ _ _ _ us hl => match us, hl with | [_, _], _ => rfl) fun cdv A outer s H E hr tk => by
    exact (d_seq (d_set 2 sc__law_fraction.nd (d_own O__law_draw hr tk (d_cons (d_var 0) (d_cons d_int d_nil))))
    (d_seq (d_sif (t_eq hr (d_var 2) d_int) (d_one (d_ret (d_tup (d_cons d_int (d_cons d_int d_nil))))) d_snil)
    (d_seq (d_sif (t_eq hr (d_var 2) d_int) (d_one (d_ret (d_tup (d_cons (d_own O__law_draw hr tk (d_cons (d_var 0) (d_cons d_int d_nil))) (d_cons d_int d_nil))))) d_snil)
    (d_seq (d_sif (PW.pt (d_or (t_eq hr (d_var 2) d_int) (pw_or1 (t_eq hr (d_var 2) d_int)))) (d_seq (d_set 3 sc__law_fraction.nd (d_own O__law_draw hr tk (d_cons (d_var 0) (d_cons d_int d_nil))))
    (d_one (d_ret (d_own O__law_lowest hr tk (d_cons (d_var 3) (d_cons (d_add d_int (d_own O__law_draw hr tk (d_cons (d_var 0) (d_cons d_int d_nil)))) d_nil)))))) d_snil)
    (d_seq (d_sif (PW.pt (d_or (t_eq hr (d_var 2) d_int) (pw_or1 (t_eq hr (d_var 1) (d_lst d_nil))))) (d_seq (d_set 3 sc__law_fraction.nd (d_own O__law_wide hr tk (d_cons (d_var 0) d_nil)))
    (d_one (d_ret (d_own O__law_lowest hr tk (d_cons (d_var 3) (d_cons (d_max2 T.m_max (d_cons d_int (d_cons (d_own O__law_wide hr tk (d_cons (d_var 0) d_nil)) d_nil))) d_nil)))))) d_snil)
    (d_seq (d_set 4 sc__law_fraction.nd (d_own O__law_pick hr tk (d_cons (d_var 0) (d_cons (d_var 1) d_nil))))
    (d_seq (d_sif (PW.pt (d_or (t_eq hr (d_var 2) d_int) (pw_or1 (t_gt (d_max2 T.m_max (d_cons (d_ix (d_var 4) d_int) (d_cons (d_ix (d_var 4) d_int) d_nil))) (d_pow d_int d_int))))) (d_one (d_ret (d_var 4))) d_snil)
    (d_seq (d_set 5 sc__law_fraction.nd (d_add d_int (d_own O__law_draw hr tk (d_cons (d_var 0) (d_cons (d_pow d_int d_int) d_nil)))))
    (d_seq (d_set 6 sc__law_fraction.nd d_int)
    (d_seq (d_sif (PW.pt (d_and (t_gt (d_ix (d_var 4) d_int) d_int) (pw_and1 (t_eq hr (d_own O__law_draw hr tk (d_cons (d_var 0) (d_cons d_int d_nil))) d_int)))) (d_one (d_set 6 sc__law_fraction.nd (d_neg d_int))) d_snil)
    (d_one (d_ret (d_own O__law_lowest hr tk (d_cons (d_add (d_mul (d_ix (d_var 4) d_int) (d_var 5)) (d_var 6)) (d_cons (d_mul (d_ix (d_var 4) d_int) (d_var 5)) d_nil)))))))))))))))
theorem sc__law_made : FnScope ["_law_top", "_law_bottom", "_law_alone", "e", "_law_right"] ["_law_top", "_law_bottom", "_law_alone"] (defScope s__law_made) := ⟨rfl, rfl, rfl, by decide +kernel, rfl, by decide +kernel, by decide +kernel⟩
theorem ok__law_made (T : Txt P Z mg) {f : Addr} {fd : FuncData} (Fn : FunD Z.K "_law_made" "_law_made" (defArgs s__law_made) (defBody s__law_made) (defScope s__law_made) [] [] f fd) (hm : mg "_law_made" = some (.ref f)) (O_moment : Own P w Z mg base 1 "moment" G_moment) : Own P w Z mg base 2 "_law_made" F__law_made :=
  own_ok Fn hm sc__law_made (fun _ _ _ _ _ _ us hl => match us, hl with | [_, _, _], _ => rfl) fun cdv A outer s H E hr tk => by
    exact (d_one (d_try 3 rfl rfl sc__law_made.nd ⟨rfl, by decide, .inl T.c_InvalidMoment⟩ T.s_InvalidMoment.1 tk
    (by exact fun W pn xe tk hps => (d_seq (d_sif (d_test (d_var 2) rfl) (d_one (d_ret (d_tup (d_cons d_bl (d_cons (d_own O_moment hr tk (d_cons (d_var 0) d_nil)) d_nil))))) d_snil)
    (d_one (d_ret (d_tup (d_cons d_bl (d_cons (d_own O_moment hr tk (d_cons (d_var 0) (d_cons (d_var 1) d_nil))) d_nil)))))))
    (by exact fun a oe cls d pn e hz hv => (d_seq (d_set 4 sc__law_made.nd (d_andV (d_isX 3 T.tab hz hv T.m_isinstance ⟨pe_glob (v := .ref (He.ga Z.K _)) rfl T.c_BellError rfl, fun _ h => h⟩ T.s_BellError.2) (pe_one (d_isX 3 T.tab hz hv T.m_isinstance ⟨pe_bltn (v := .ty "ValueError") rfl T.m_ValueError (by decide +kernel) rfl, fun _ h => h⟩ T.s_ValueError.2)) rfl))
    (d_seq (d_set 4 sc__law_made.nd (d_andV (d_var 4) (d_andV (d_notV (d_isX 3 T.tab hz hv T.m_isinstance ⟨pe_glob (v := .ref (He.ga Z.K _)) rfl T.c_Backwards rfl, fun _ h => h⟩ T.s_Backwards.2) rfl) (pe_one (d_notV (d_isX 3 T.tab hz hv T.m_isinstance ⟨pe_glob (v := .ref (He.ga Z.K _)) rfl T.c_InvalidSpan rfl, fun _ h => h⟩ T.s_InvalidSpan.2) rfl)) rfl) rfl))
    (d_one (d_ret (d_tup (d_cons d_bl (d_cons (d_tup (d_cons (d_fld 3 T.tab (by decide) hz hv) (d_cons (d_var 4) d_nil))) d_nil))))))))))
theorem sc__law_rest : FnScope ["_law_first", "_law_second", "e", "_law_right"] ["_law_first", "_law_second"] (defScope s__law_rest) := ⟨rfl, rfl, rfl, by decide +kernel, rfl, by decide +kernel, by decide +kernel⟩
theorem ok__law_rest (T : Txt P Z mg) {f : Addr} {fd : FuncData} (Fn : FunD Z.K "_law_rest" "_law_rest" (defArgs s__law_rest) (defBody s__law_rest) (defScope s__law_rest) [] [] f fd) (hm : mg "_law_rest" = some (.ref f)) (O_since : Own P w Z mg base 2 "since" F_since) : Own P w Z mg base 3 "_law_rest" F__law_rest :=
  own_ok Fn hm sc__law_rest (fun _ _ _ _ _ _ us hl => match us, hl with | [_, _], _ => rfl) fun cdv A outer s H E hr tk => by
    exact (d_one (d_try 2 rfl rfl sc__law_rest.nd ⟨rfl, by decide, .inl T.c_Backwards⟩ T.s_Backwards.1 tk
    (by exact fun W pn xe tk hps => (d_one (d_ret (d_tup (d_cons d_bl (d_cons (d_own O_since hr tk (d_cons (d_var 0) (d_cons (d_var 1) d_nil))) d_nil))))))
    (by exact fun a oe cls d pn e hz hv => (d_seq (d_set 3 sc__law_rest.nd (d_andV (d_isX 2 T.tab hz hv T.m_isinstance ⟨pe_glob (v := .ref (He.ga Z.K _)) rfl T.c_BellError rfl, fun _ h => h⟩ T.s_BellError.2) (pe_one (d_isX 2 T.tab hz hv T.m_isinstance ⟨pe_bltn (v := .ty "ValueError") rfl T.m_ValueError (by decide +kernel) rfl, fun _ h => h⟩ T.s_ValueError.2)) rfl))
    (d_seq (d_set 3 sc__law_rest.nd (d_andV (d_var 3) (d_andV (d_notV (d_isX 2 T.tab hz hv T.m_isinstance ⟨pe_glob (v := .ref (He.ga Z.K _)) rfl T.c_InvalidMoment rfl, fun _ h => h⟩ T.s_InvalidMoment.2) rfl) (pe_one (d_notV (d_isX 2 T.tab hz hv T.m_isinstance ⟨pe_glob (v := .ref (He.ga Z.K _)) rfl T.c_InvalidSpan rfl, fun _ h => h⟩ T.s_InvalidSpan.2) rfl)) rfl) rfl))
    (d_one (d_ret (d_tup (d_cons d_bl (d_cons (d_tup (d_cons (d_fld 2 T.tab (by decide) hz hv) (d_cons (d_fld 2 T.tab (by decide) hz hv) (d_cons (d_var 3) d_nil)))) d_nil))))))))))
theorem sc__law_total : FnScope ["_law_row"] ["_law_row"] (defScope s__law_total) := ⟨rfl, rfl, rfl, by decide +kernel, rfl, by decide +kernel, by decide +kernel⟩
theorem ok__law_total (T : Txt P Z mg) {f : Addr} {fd : FuncData} (Fn : FunD Z.K "_law_total" "_law_total" (defArgs s__law_total) (defBody s__law_total) (defScope s__law_total) [] [] f fd) (hm : mg "_law_total" = some (.ref f)) (O_added : Own P w Z mg base 2 "added" G_added) : Own P w Z mg base 3 "_law_total" F__law_total :=
  own_ok Fn hm sc__law_total (fun _ _ _ _ _ _ us hl => match us, hl with | [_], _ => rfl) fun cdv A outer s H E hr tk => by
    exact (d_seq (d_sif (t_eq hr (d_len T.m_len (d_cons (d_var 0) d_nil)) d_int) (d_one (d_ret (d_own0 O_added hr tk))) d_snil)
    (d_seq (d_sif (t_eq hr (d_len T.m_len (d_cons (d_var 0) d_nil)) d_int) (d_one (d_ret (d_own O_added hr tk (d_cons (d_ix (d_var 0) d_int) d_nil)))) d_snil)
    (d_seq (d_sif (t_eq hr (d_len T.m_len (d_cons (d_var 0) d_nil)) d_int) (d_one (d_ret (d_own O_added hr tk (d_cons (d_ix (d_var 0) d_int) (d_cons (d_ix (d_var 0) d_int) d_nil))))) d_snil)
    (d_seq (d_sif (t_eq hr (d_len T.m_len (d_cons (d_var 0) d_nil)) d_int) (d_one (d_ret (d_own O_added hr tk (d_cons (d_ix (d_var 0) d_int) (d_cons (d_ix (d_var 0) d_int) (d_cons (d_ix (d_var 0) d_int) d_nil)))))) d_snil)
    (d_seq (d_sif (t_eq hr (d_len T.m_len (d_cons (d_var 0) d_nil)) d_int) (d_one (d_ret (d_own O_added hr tk (d_cons (d_ix (d_var 0) d_int) (d_cons (d_ix (d_var 0) d_int) (d_cons (d_ix (d_var 0) d_int) (d_cons (d_ix (d_var 0) d_int) d_nil))))))) d_snil)
    (d_one (d_ret (d_own O_added hr tk (d_cons (d_ix (d_var 0) d_int) (d_cons (d_ix (d_var 0) d_int) (d_cons (d_ix (d_var 0) d_int) (d_cons (d_ix (d_var 0) d_int) (d_cons (d_ix (d_var 0) d_int) d_nil)))))))))))))
theorem sc__law_one_holds : FnScope ["_law_box_here", "_law_one", "_law_most", "_law_factor", "_law_top", "_law_bottom", "_law_whole", "_law_part"] ["_law_box_here", "_law_one"] (defScope s__law_one_holds) := ⟨rfl, rfl, rfl, by decide +kernel, rfl, by decide +kernel, by decide +kernel⟩
theorem ok__law_one_holds (T : Txt P Z mg) {f : Addr} {fd : FuncData} (Fn : FunD Z.K "_law_one_holds" "_law_one_holds" (defArgs s__law_one_holds) (defBody s__law_one_holds) (defScope s__law_one_holds) [] [] f fd) (hm : mg "_law_one_holds" = some (.ref f)) (O__law_lowest : Own P w Z mg base 2 "_law_lowest" F__law_lowest) (O__law_same : Own P w Z mg base 8 "_law_same" (F__law_same 8)) (O__law_draw : Own P w Z mg base 1 "_law_draw" F__law_draw) (O_whole_and_part : Own P w Z mg base 1 "whole_and_part" F_whole_and_part) (O__law_made : Own P w Z mg base 2 "_law_made" F__law_made) (O_is_moment : Own P w Z mg base 2 "is_moment" F_is_moment) : Own P w Z mg base 9 "_law_one_holds" F__law_one_holds :=
  own_ok Fn hm sc__law_one_holds (fun _ _ _ _ _ _ us hl => match us, hl with | [_, _], _ => rfl) fun cdv A outer s H E hr tk => by
    exact (d_seq (d_set 2 sc__law_one_holds.nd d_int)
    (d_seq (d_sif (t_lt (d_max2 T.m_max (d_cons (d_ix (d_var 1) d_int) (d_cons (d_ix (d_var 1) d_int) d_nil))) (d_pow d_int d_int)) (d_one (d_set 2 sc__law_one_holds.nd d_int)) d_snil)
    (d_seq (d_set 3 sc__law_one_holds.nd (d_add d_int (d_own O__law_draw hr tk (d_cons (d_var 0) (d_cons (d_var 2) d_nil)))))
    (d_seq (d_set 4 sc__law_one_holds.nd (d_mul (d_ix (d_var 1) d_int) (d_var 3)))
    (d_seq (d_set 5 sc__law_one_holds.nd (d_mul (d_ix (d_var 1) d_int) (d_var 3)))
    (d_seq (d_sif (d_not (d_test (d_own O__law_same hr tk (d_cons (d_own O__law_made hr tk (d_cons (d_var 4) (d_cons (d_var 5) (d_cons d_bl d_nil)))) (d_cons (d_tup (d_cons d_bl (d_cons (d_var 1) d_nil))) d_nil))) rfl)) (d_one (d_ret d_bl)) d_snil)
    (d_seq (d_sif (PW.pt (d_or (d_not (d_test (d_own O__law_same hr tk (d_cons (d_own O_is_moment hr tk (d_cons (d_tup (d_cons (d_var 4) (d_cons (d_var 5) d_nil))) d_nil)) (d_cons (d_eq hr (d_var 3) d_int) d_nil))) rfl)) (pw_or1 (t_isn (d_own O_is_moment hr tk (d_cons (d_var 1) d_nil)) d_bl)))) (d_one (d_ret d_bl)) d_snil)
    (d_seq (d_sif (d_not (d_test (d_own O__law_same hr tk (d_cons (d_own O__law_made hr tk (d_cons (d_var 4) (d_cons d_int (d_cons d_bl d_nil)))) (d_cons (d_tup (d_cons d_bl (d_cons (d_tup (d_cons (d_var 4) (d_cons d_int d_nil))) d_nil))) d_nil))) rfl)) (d_one (d_ret d_bl)) d_snil)
    (d_seq (d_set 6 sc__law_one_holds.nd (d_fdiv (d_ix (d_var 1) d_int) (d_ix (d_var 1) d_int)))
    (d_seq (d_set 7 sc__law_one_holds.nd (d_own O__law_lowest hr tk (d_cons (d_sub (d_ix (d_var 1) d_int) (d_mul (d_var 6) (d_ix (d_var 1) d_int))) (d_cons (d_ix (d_var 1) d_int) d_nil))))
    (d_one (d_ret (d_own O__law_same hr tk (d_cons (d_own O_whole_and_part hr tk (d_cons (d_var 1) d_nil)) (d_cons (d_tup (d_cons (d_var 6) (d_cons (d_var 7) d_nil))) d_nil)))))))))))))))
theorem sc__law_two_hold : FnScope ["_law_first", "_law_second", "_law_left", "_law_right", "_law_bottom", "_law_order", "_law_due"] ["_law_first", "_law_second"] (defScope s__law_two_hold) := ⟨rfl, rfl, rfl, by decide +kernel, rfl, by decide +kernel, by decide +kernel⟩
theorem ok__law_two_hold (T : Txt P Z mg) {f : Addr} {fd : FuncData} (Fn : FunD Z.K "_law_two_hold" "_law_two_hold" (defArgs s__law_two_hold) (defBody s__law_two_hold) (defScope s__law_two_hold) [] [] f fd) (hm : mg "_law_two_hold" = some (.ref f)) (O__law_same : Own P w Z mg base 8 "_law_same" (F__law_same 8)) (O__law_rest : Own P w Z mg base 3 "_law_rest" F__law_rest) (O_compared : Own P w Z mg base 1 "compared" F_compared) (O_halfway : Own P w Z mg base 2 "halfway" F_halfway) (O__law_lowest : Own P w Z mg base 2 "_law_lowest" F__law_lowest) : Own P w Z mg base 9 "_law_two_hold" F__law_two_hold :=
  own_ok Fn hm sc__law_two_hold (fun _ _ _ _ _ _ us hl => match us, hl with | [_, _], _ => rfl) fun cdv A outer s H E hr tk => by
    exact (d_seq (d_set 2 sc__law_two_hold.nd (d_mul (d_ix (d_var 0) d_int) (d_ix (d_var 1) d_int)))
    (d_seq (d_set 3 sc__law_two_hold.nd (d_mul (d_ix (d_var 1) d_int) (d_ix (d_var 0) d_int)))
    (d_seq (d_set 4 sc__law_two_hold.nd (d_mul (d_ix (d_var 0) d_int) (d_ix (d_var 1) d_int)))
    (d_seq (d_set 5 sc__law_two_hold.nd (d_sub (d_toint T.m_int (d_cons (d_gt (d_var 2) (d_var 3)) d_nil)) (d_toint T.m_int (d_cons (d_lt (d_var 2) (d_var 3)) d_nil))))
    (d_seq (d_sif (d_not (d_test (d_own O__law_same hr tk (d_cons (d_own O_compared hr tk (d_cons (d_var 0) (d_cons (d_var 1) d_nil))) (d_cons (d_var 5) d_nil))) rfl)) (d_one (d_ret d_bl)) d_snil)
    (d_seq (d_sif (d_not (d_test (d_own O__law_same hr tk (d_cons (d_own O_halfway hr tk (d_cons (d_var 0) (d_cons (d_var 1) d_nil))) (d_cons (d_own O__law_lowest hr tk (d_cons (d_add (d_var 2) (d_var 3)) (d_cons (d_mul d_int (d_var 4)) d_nil))) d_nil))) rfl)) (d_one (d_ret d_bl)) d_snil)
    (d_seq (d_set 6 sc__law_two_hold.nd (d_tup (d_cons d_bl (d_cons (d_tup (d_cons (d_var 0) (d_cons (d_var 1) (d_cons d_bl d_nil)))) d_nil))))
    (d_seq (d_sif (t_le (d_var 5) d_int) (d_one (d_set 6 sc__law_two_hold.nd (d_tup (d_cons d_bl (d_cons (d_own O__law_lowest hr tk (d_cons (d_sub (d_var 3) (d_var 2)) (d_cons (d_var 4) d_nil))) d_nil))))) d_snil)
    (d_one (d_ret (d_own O__law_same hr tk (d_cons (d_own O__law_rest hr tk (d_cons (d_var 0) (d_cons (d_var 1) d_nil))) (d_cons (d_var 6) d_nil)))))))))))))
theorem sc__law_sum_holds : FnScope ["_law_row", "_law_total_here", "_law_one"] ["_law_row"] (defScope s__law_sum_holds) := ⟨rfl, rfl, rfl, by decide +kernel, rfl, by decide +kernel, by decide +kernel⟩
theorem ok__law_sum_holds (T : Txt P Z mg) {f : Addr} {fd : FuncData} (Fn : FunD Z.K "_law_sum_holds" "_law_sum_holds" (defArgs s__law_sum_holds) (defBody s__law_sum_holds) (defScope s__law_sum_holds) [] [] f fd) (hm : mg "_law_sum_holds" = some (.ref f)) (O__law_same : Own P w Z mg base 8 "_law_same" (F__law_same 8)) (O__law_lowest : Own P w Z mg base 2 "_law_lowest" F__law_lowest) (O__law_total : Own P w Z mg base 3 "_law_total" F__law_total) : Own P w Z mg base 9 "_law_sum_holds" F__law_sum_holds :=
  own_ok Fn hm sc__law_sum_holds (fun _ _ _ _ _ _ us hl => match us, hl with | [_], _ => rfl) fun cdv A outer s H E hr tk => by
    exact (d_seq (d_set 1 sc__law_sum_holds.nd (d_tup (d_cons d_int (d_cons d_int d_nil))))
    (d_seq (d_for (passes_of rfl) rfl (d_src rfl (d_var 0)) (d_gname 2 sc__law_sum_holds.nd) (d_one (d_set 1 sc__law_sum_holds.nd (d_own O__law_lowest hr tk (d_cons (d_add (d_mul (d_ix (d_var 1) d_int) (d_ix (d_var 2) d_int)) (d_mul (d_ix (d_var 2) d_int) (d_ix (d_var 1) d_int))) (d_cons (d_mul (d_ix (d_var 1) d_int) (d_ix (d_var 2) d_int)) d_nil))))))
    (d_one (d_ret (d_own O__law_same hr tk (d_cons (d_own O__law_total hr tk (d_cons (d_var 0) d_nil)) (d_cons (d_var 1) d_nil)))))))
theorem sc__law_wrong_holds : FnScope ["_law_box_here", "_law_choice", "_law_top", "_law_bottom"] ["_law_box_here"] (defScope s__law_wrong_holds) := ⟨rfl, rfl, rfl, by decide +kernel, rfl, by decide +kernel, by decide +kernel⟩
theorem ok__law_wrong_holds (T : Txt P Z mg) {f : Addr} {fd : FuncData} (Fn : FunD Z.K "_law_wrong_holds" "_law_wrong_holds" (defArgs s__law_wrong_holds) (defBody s__law_wrong_holds) (defScope s__law_wrong_holds) [] [] f fd) (hm : mg "_law_wrong_holds" = some (.ref f)) (O__law_draw : Own P w Z mg base 1 "_law_draw" F__law_draw) (O__law_same : Own P w Z mg base 8 "_law_same" (F__law_same 8)) (O_is_moment : Own P w Z mg base 2 "is_moment" F_is_moment) (O__law_made : Own P w Z mg base 2 "_law_made" F__law_made) : Own P w Z mg base 9 "_law_wrong_holds" F__law_wrong_holds :=
  own_ok Fn hm sc__law_wrong_holds (fun _ _ _ _ _ _ us hl => match us, hl with | [_], _ => rfl) fun cdv A outer s H E hr tk => by
    exact (d_seq (d_set 1 sc__law_wrong_holds.nd (d_own O__law_draw hr tk (d_cons (d_var 0) (d_cons d_int d_nil))))
    (d_seq (d_set 2 sc__law_wrong_holds.nd (d_own O__law_draw hr tk (d_cons (d_var 0) (d_cons d_int d_nil))))
    (d_seq (d_set 3 sc__law_wrong_holds.nd (d_add d_int (d_own O__law_draw hr tk (d_cons (d_var 0) (d_cons d_int d_nil)))))
    (d_seq (d_sif (t_ne hr (d_var 1) d_int) (d_one (d_set 2 sc__law_wrong_holds.nd (d_sub d_int (d_var 3)))) d_snil)
    (d_seq (d_sif (t_ne hr (d_var 1) d_int) (d_one (d_set 3 sc__law_wrong_holds.nd (d_sub d_int (d_own O__law_draw hr tk (d_cons (d_var 0) (d_cons d_int d_nil)))))) d_snil)
    (d_seq (d_sif (d_not (d_test (d_own O__law_same hr tk (d_cons (d_own O__law_made hr tk (d_cons (d_var 2) (d_cons (d_var 3) (d_cons d_bl d_nil)))) (d_cons (d_tup (d_cons d_bl (d_cons (d_tup (d_cons (d_tup (d_cons (d_var 2) (d_cons (d_var 3) d_nil))) (d_cons d_bl d_nil))) d_nil))) d_nil))) rfl)) (d_one (d_ret d_bl)) d_snil)
    (d_seq (d_sif (t_isn (d_own O_is_moment hr tk (d_cons (d_tup (d_cons (d_var 2) (d_cons (d_var 3) d_nil))) d_nil)) d_bl) (d_one (d_ret d_bl)) d_snil)
    (d_seq (d_set 2 sc__law_wrong_holds.nd (d_sub (d_sub d_int d_int) (d_own O__law_draw hr tk (d_cons (d_var 0) (d_cons d_int d_nil)))))
    (d_one (d_ret (d_own O__law_same hr tk (d_cons (d_own O__law_made hr tk (d_cons (d_var 2) (d_cons d_int (d_cons d_bl d_nil)))) (d_cons (d_tup (d_cons d_bl (d_cons (d_tup (d_cons (d_tup (d_cons (d_var 2) (d_cons d_int d_nil))) (d_cons d_bl d_nil))) d_nil))) d_nil)))))))))))))
theorem sc_law : FnScope ["_law_script", "_law_box_here", "_law_row", "_law_k"] ["_law_script"] (defScope s_law) := ⟨rfl, rfl, rfl, by decide +kernel, rfl, by decide +kernel, by decide +kernel⟩
theorem fn_law (T : Txt P Z mg) {f : Addr} {fd : FuncData} (Fn : FunD Z.K "law" "law" (defArgs s_law) (defBody s_law) (defScope s_law) [] [] f fd) (hm : mg "law" = some (.ref f)) (O__law_box : Own P w Z mg base 1 "_law_box" F__law_box) (O__law_wrong_holds : Own P w Z mg base 9 "_law_wrong_holds" F__law_wrong_holds) (O__law_same : Own P w Z mg base 8 "_law_same" (F__law_same 8)) (O__law_draw : Own P w Z mg base 1 "_law_draw" F__law_draw) (O__law_fraction : Own P w Z mg base 3 "_law_fraction" F__law_fraction) (O__law_one_holds : Own P w Z mg base 9 "_law_one_holds" F__law_one_holds) (O__law_sum_holds : Own P w Z mg base 9 "_law_sum_holds" F__law_sum_holds) (O_moment : Own P w Z mg base 1 "moment" G_moment) (O__law_two_hold : Own P w Z mg base 9 "_law_two_hold" F__law_two_hold) (OK_moment_1_denominator : OwnK P w Z mg base 1 "moment" 1 ["denominator"] K_moment_1_denominator) : FnOk P w Z.K mg base (L2.CX P w) 10 f fd ["_law_script"] (spD Z F_law) :=
  fnok_ok Fn sc_law fun cdv A outer s H E hr tk => by
    exact (d_seq (d_set 1 sc_law.nd (d_own O__law_box hr tk (d_cons (d_var 0) d_nil)))
    (d_seq (d_set 2 sc_law.nd (d_lst d_nil))
    (d_seq (d_for (passes_of rfl) rfl (d_rng1 (d_cons (d_add d_int (d_own O__law_draw hr tk (d_cons (d_var 1) (d_cons d_int d_nil)))) d_nil) T.m_range) (d_gname 3 sc_law.nd) (d_one (d_expr (d_append (d_var 2) (d_cons (d_own O__law_fraction hr tk (d_cons (d_var 1) (d_cons (d_list T.m_list (d_cons (d_var 2) d_nil)) d_nil))) d_nil)))))
    (d_seq (d_for (passes_of rfl) rfl (d_rng1 (d_cons (d_len T.m_len (d_cons (d_var 2) d_nil)) d_nil) T.m_range) (d_gname 3 sc_law.nd) (d_seq (d_sif (d_not (d_test (d_own O__law_one_holds hr tk (d_cons (d_var 1) (d_cons (d_ix (d_var 2) (d_var 3)) d_nil))) rfl)) (d_one (d_ret d_bl)) d_snil)
    (d_seq (d_sif (PW.pt (d_or (d_not (d_test (d_own O__law_two_hold hr tk (d_cons (d_ix (d_var 2) (d_var 3)) (d_cons (d_ix (d_var 2) (d_sub (d_var 3) d_int)) d_nil))) rfl)) (pw_or1 (d_not (d_test (d_own O__law_two_hold hr tk (d_cons (d_ix (d_var 2) (d_sub (d_var 3) d_int)) (d_cons (d_ix (d_var 2) (d_var 3)) d_nil))) rfl))))) (d_one (d_ret d_bl)) d_snil)
    (d_one (d_sif (PW.pt (d_or (d_not (d_test (d_own O__law_two_hold hr tk (d_cons (d_ix (d_var 2) (d_var 3)) (d_cons (d_ix (d_var 2) (d_var 3)) d_nil))) rfl)) (pw_or1 (d_not (d_test (d_own O__law_sum_holds hr tk (d_cons (d_sl (d_var 2) (d_osome (d_var 3)) d_onone) d_nil)) rfl))))) (d_one (d_ret d_bl)) d_snil)))))
    (d_seq (d_sif (PW.pt (d_or (d_not (d_test (d_own O__law_sum_holds hr tk (d_cons (d_lst d_nil) d_nil)) rfl)) (pw_or1 (d_not (d_test (d_own O__law_sum_holds hr tk (d_cons (d_lstRev T.m_list T.m_reversed (d_var 2)) d_nil)) rfl))))) (d_one (d_ret d_bl)) d_snil)
    (d_seq (d_sif (d_not (d_test (d_own O__law_same hr tk (d_cons (d_ownK OK_moment_1_denominator hr tk (d_cons (d_ix (d_ix (d_var 2) d_int) d_int) d_nil) (dk_cons (d_ix (d_ix (d_var 2) d_int) d_int) dk_nil) (aCons_len aNil_len) (aCons_len aNil_len)) (d_cons (d_ix (d_var 2) d_int) d_nil))) rfl)) (d_one (d_ret d_bl)) d_snil)
    (d_one (d_ret (d_own O__law_wrong_holds hr tk (d_cons (d_var 1) d_nil))))))))))
end
/-! ### the head -/
def d_is_whole : He.DefD := ⟨("is_whole", none), "is_whole", "is_whole", defArgs s_is_whole, defBody s_is_whole, defScope s_is_whole, [], []⟩
def d_is_moment : He.DefD := ⟨("is_moment", none), "is_moment", "is_moment", defArgs s_is_moment, defBody s_is_moment, defScope s_is_moment, [], []⟩
def d_moment : He.DefD := ⟨("moment", none), "moment", "moment", defArgs s_moment, defBody s_moment, defScope s_moment, [(.int 1)], []⟩
def d_added : He.DefD := ⟨("added", none), "added", "added", defArgs s_added, defBody s_added, defScope s_added, [], []⟩
def d_since : He.DefD := ⟨("since", none), "since", "since", defArgs s_since, defBody s_since, defScope s_since, [], []⟩
def d_compared : He.DefD := ⟨("compared", none), "compared", "compared", defArgs s_compared, defBody s_compared, defScope s_compared, [], []⟩
def d_halfway : He.DefD := ⟨("halfway", none), "halfway", "halfway", defArgs s_halfway, defBody s_halfway, defScope s_halfway, [], []⟩
def d_whole_and_part : He.DefD := ⟨("whole_and_part", none), "whole_and_part", "whole_and_part", defArgs s_whole_and_part, defBody s_whole_and_part, defScope s_whole_and_part, [], []⟩
def d__law_box : He.DefD := ⟨("_law_box", none), "_law_box", "_law_box", defArgs s__law_box, defBody s__law_box, defScope s__law_box, [], []⟩
def d__law_draw : He.DefD := ⟨("_law_draw", none), "_law_draw", "_law_draw", defArgs s__law_draw, defBody s__law_draw, defScope s__law_draw, [], []⟩
def d__law_pick : He.DefD := ⟨("_law_pick", none), "_law_pick", "_law_pick", defArgs s__law_pick, defBody s__law_pick, defScope s__law_pick, [], []⟩
def d__law_same : He.DefD := ⟨("_law_same", none), "_law_same", "_law_same", defArgs s__law_same, defBody s__law_same, defScope s__law_same, [], []⟩
def d__law_gcd : He.DefD := ⟨("_law_gcd", none), "_law_gcd", "_law_gcd", defArgs s__law_gcd, defBody s__law_gcd, defScope s__law_gcd, [], []⟩
def d__law_lowest : He.DefD := ⟨("_law_lowest", none), "_law_lowest", "_law_lowest", defArgs s__law_lowest, defBody s__law_lowest, defScope s__law_lowest, [], []⟩
def d__law_wide : He.DefD := ⟨("_law_wide", none), "_law_wide", "_law_wide", defArgs s__law_wide, defBody s__law_wide, defScope s__law_wide, [], []⟩
def d__law_fraction : He.DefD := ⟨("_law_fraction", none), "_law_fraction", "_law_fraction", defArgs s__law_fraction, defBody s__law_fraction, defScope s__law_fraction, [], []⟩
def d__law_made : He.DefD := ⟨("_law_made", none), "_law_made", "_law_made", defArgs s__law_made, defBody s__law_made, defScope s__law_made, [], []⟩
def d__law_rest : He.DefD := ⟨("_law_rest", none), "_law_rest", "_law_rest", defArgs s__law_rest, defBody s__law_rest, defScope s__law_rest, [], []⟩
def d__law_total : He.DefD := ⟨("_law_total", none), "_law_total", "_law_total", defArgs s__law_total, defBody s__law_total, defScope s__law_total, [], []⟩
def d__law_one_holds : He.DefD := ⟨("_law_one_holds", none), "_law_one_holds", "_law_one_holds", defArgs s__law_one_holds, defBody s__law_one_holds, defScope s__law_one_holds, [], []⟩
def d__law_two_hold : He.DefD := ⟨("_law_two_hold", none), "_law_two_hold", "_law_two_hold", defArgs s__law_two_hold, defBody s__law_two_hold, defScope s__law_two_hold, [], []⟩
def d__law_sum_holds : He.DefD := ⟨("_law_sum_holds", none), "_law_sum_holds", "_law_sum_holds", defArgs s__law_sum_holds, defBody s__law_sum_holds, defScope s__law_sum_holds, [], []⟩
def d__law_wrong_holds : He.DefD := ⟨("_law_wrong_holds", none), "_law_wrong_holds", "_law_wrong_holds", defArgs s__law_wrong_holds, defBody s__law_wrong_holds, defScope s__law_wrong_holds, [], []⟩
def d_law : He.DefD := ⟨("law", none), "law", "law", defArgs s_law, defBody s_law, defScope s_law, [], []⟩
def fnL : List He.DefD := [d_is_whole, d_is_moment, d_moment, d_added, d_since, d_compared, d_halfway, d_whole_and_part, d__law_box, d__law_draw, d__law_pick, d__law_same, d__law_gcd, d__law_lowest, d__law_wide, d__law_fraction, d__law_made, d__law_rest, d__law_total, d__law_one_holds, d__law_two_hold, d__law_sum_holds, d__law_wrong_holds, d_law]
def faL : List He.Fa := [.glo "is_whole", .glo "is_moment", .glo "moment", .glo "added", .glo "since", .glo "compared", .glo "halfway", .glo "whole_and_part", .glo "_law_box", .glo "_law_draw", .glo "_law_pick", .glo "_law_same", .glo "_law_gcd", .glo "_law_lowest", .glo "_law_wide", .glo "_law_fraction", .glo "_law_made", .glo "_law_rest", .glo "_law_total", .glo "_law_one_holds", .glo "_law_two_hold", .glo "_law_sum_holds", .glo "_law_wrong_holds", .glo "law", .free "isinstance", .free "int", .free "bool", .free "tuple", .free "len", .free "all", .free "range", .free "str", .free "max", .free "ValueError", .free "list", .free "reversed", .free "super", .glo "BellError", .glo "InvalidSpan"]
abbrev i_InvalidMoment : Stmt := subSt (top 3) 0
def x_InvalidMoment : XD := ⟨"InvalidMoment", ["value"], "InvalidMoment.__init__", defArgs i_InvalidMoment, defBody i_InvalidMoment, defScope i_InvalidMoment⟩
theorem t_InvalidMoment : PySem.XV.Txt1 "value" x_InvalidMoment.qual x_InvalidMoment.scope x_InvalidMoment.body x_InvalidMoment.params := ⟨⟨_, _, _, _, _, _, _, _, _, _, _, _, rfl, ⟨rfl, rfl, rfl, rfl, fun _ _ _ _ => ⟨_, rfl⟩, fun _ _ _ _ => rfl, fun _ _ _ _ => rfl, by decide +kernel⟩, fun _ _ _ _ => rfl⟩, rfl, by decide +kernel, by decide, by decide, rfl, rfl, ⟨_, rfl, rfl⟩, fun _ _ _ _ _ _ _ _ _ => rfl⟩
abbrev i_Backwards : Stmt := subSt (top 4) 0
def x_Backwards : XD := ⟨"Backwards", ["first", "second"], "Backwards.__init__", defArgs i_Backwards, defBody i_Backwards, defScope i_Backwards⟩
theorem t_Backwards : PySem.XV.Txt2 "first" "second" x_Backwards.qual x_Backwards.scope x_Backwards.body x_Backwards.params := ⟨⟨_, _, _, _, _, _, _, _, _, _, _, _, _, _, _, _, rfl, ⟨rfl, rfl, rfl, rfl, fun _ _ _ _ => ⟨_, rfl⟩, fun _ _ _ _ => rfl, fun _ _ _ _ => rfl, by decide +kernel⟩, fun _ _ _ _ => rfl, fun _ _ _ _ => rfl⟩, rfl, rfl, by decide +kernel, by decide, by decide, by decide, by decide, by decide, rfl, rfl, ⟨_, rfl, rfl⟩, fun _ _ _ _ _ _ _ _ _ _ => rfl⟩
def xsL : List XD := [x_InvalidMoment, x_Backwards]
def xnL : List Str := ["InvalidMoment", "Backwards"]
def exB (K : PySem.W.Frag) : Bool := ((decide (PySem.W.nsIn K mainGlobals "gcd" = some (some (.builtin "math.gcd")))) && ((gloB K "ZERO" (.tup [(.int 0), (.int 1)])) && ((tabB K xnL ["value", "second", "first"]) && ((catchB K xnL (.own "InvalidMoment") ["InvalidMoment"]) && ((catchB K xnL (.own "BellError") ["InvalidMoment", "Backwards"]) && ((catchB K xnL (.ty "ValueError") ["InvalidMoment", "Backwards"]) && ((catchB K xnL (.own "Backwards") ["Backwards"]) && ((catchB K xnL (.own "InvalidSpan") []) && true))))))))
abbrev Rw : PySem.W.OpenRow := PySem.W.OpenLaw.row PySem.Challenge.rw_bellrest_k00_moments
abbrev qv : Program := PySem.W.view Rw.prog [0, 32]
abbrev fileS : Str := Rw.prog.main.file
abbrev hk : PySem.W.Hook := hookK 8 faL fnL xsL fileS exB
def ob (s : PySem.W.SharedT) : AlK := obsKG 8 faL fnL xsL fileS exB (HandSHeadRun.getT s)
theorem ob_eq (s : PySem.W.SharedT) : ob s = hk.obs s.abs := obsK_eq (HandSHeadRun.getT_eq s)
def nm0 : List PySem.Str := ["ZERO", "BellError", "InvalidMoment", "Backwards", "InvalidSpan", "is_whole", "is_moment", "moment", "added", "since", "compared", "halfway", "whole_and_part", "_law_box", "_law_draw", "_law_pick", "_law_same", "_law_gcd", "_law_lowest", "_law_wide", "_law_fraction", "_law_made", "_law_rest", "_law_total", "_law_one_holds", "_law_two_hold", "_law_sum_holds", "_law_wrong_holds"]
def names : List PySem.Str := nm0
theorem run (w : World) : HandSHeadRun.RunEqI Rw qv hk ob 4000 names w := by
  unfold HandSHeadRun.RunEqI
  kernel_rfl
theorem facts {P : Program} {w : World} {K : PySem.W.Frag} {h : Heap} {mg : Str → Option Value} {fa : Addr} (hP : P.main.file = fileS) (hS : (P.main.scope.names.lookup ("super" : Str)).isSome = false) (X : K.In h) (G : h.Ns mainGlobals mg) (hfa : mg ("law" : Str) = some (.ref fa)) (c0 : SaysK faL fnL xsL fileS exB K) :
    ∃ fd : FuncData, (∀ (s : Shared) (u : Value), BindsTo s fd ⟨[u], []⟩ [("_law_script", u)]) ∧ ∀ base : Heap, K.In base → base.Ns mainGlobals mg → FnOk P w K mg base (L2.CX P w) 10 fa fd ["_law_script"] (spD ⟨K, clsOf K xnL⟩ F_law) := by
  have c := c0.d
  rw [← hP] at c0
  obtain ⟨fd_is_whole, Fn_is_whole⟩ := c.def_ 0 (d := d_is_whole) rfl
  have hg_is_whole := He.glo_ok X G (c.fact 0 (f := .glo "is_whole") rfl)
  obtain ⟨fd_is_moment, Fn_is_moment⟩ := c.def_ 1 (d := d_is_moment) rfl
  have hg_is_moment := He.glo_ok X G (c.fact 1 (f := .glo "is_moment") rfl)
  obtain ⟨fd_moment, Fn_moment⟩ := c.def_ 2 (d := d_moment) rfl
  have hg_moment := He.glo_ok X G (c.fact 2 (f := .glo "moment") rfl)
  obtain ⟨fd_added, Fn_added⟩ := c.def_ 3 (d := d_added) rfl
  have hg_added := He.glo_ok X G (c.fact 3 (f := .glo "added") rfl)
  obtain ⟨fd_since, Fn_since⟩ := c.def_ 4 (d := d_since) rfl
  have hg_since := He.glo_ok X G (c.fact 4 (f := .glo "since") rfl)
  obtain ⟨fd_compared, Fn_compared⟩ := c.def_ 5 (d := d_compared) rfl
  have hg_compared := He.glo_ok X G (c.fact 5 (f := .glo "compared") rfl)
  obtain ⟨fd_halfway, Fn_halfway⟩ := c.def_ 6 (d := d_halfway) rfl
  have hg_halfway := He.glo_ok X G (c.fact 6 (f := .glo "halfway") rfl)
  obtain ⟨fd_whole_and_part, Fn_whole_and_part⟩ := c.def_ 7 (d := d_whole_and_part) rfl
  have hg_whole_and_part := He.glo_ok X G (c.fact 7 (f := .glo "whole_and_part") rfl)
  obtain ⟨fd__law_box, Fn__law_box⟩ := c.def_ 8 (d := d__law_box) rfl
  have hg__law_box := He.glo_ok X G (c.fact 8 (f := .glo "_law_box") rfl)
  obtain ⟨fd__law_draw, Fn__law_draw⟩ := c.def_ 9 (d := d__law_draw) rfl
  have hg__law_draw := He.glo_ok X G (c.fact 9 (f := .glo "_law_draw") rfl)
  obtain ⟨fd__law_pick, Fn__law_pick⟩ := c.def_ 10 (d := d__law_pick) rfl
  have hg__law_pick := He.glo_ok X G (c.fact 10 (f := .glo "_law_pick") rfl)
  obtain ⟨fd__law_same, Fn__law_same⟩ := c.def_ 11 (d := d__law_same) rfl
  have hg__law_same := He.glo_ok X G (c.fact 11 (f := .glo "_law_same") rfl)
  obtain ⟨fd__law_gcd, Fn__law_gcd⟩ := c.def_ 12 (d := d__law_gcd) rfl
  have hg__law_gcd := He.glo_ok X G (c.fact 12 (f := .glo "_law_gcd") rfl)
  obtain ⟨fd__law_lowest, Fn__law_lowest⟩ := c.def_ 13 (d := d__law_lowest) rfl
  have hg__law_lowest := He.glo_ok X G (c.fact 13 (f := .glo "_law_lowest") rfl)
  obtain ⟨fd__law_wide, Fn__law_wide⟩ := c.def_ 14 (d := d__law_wide) rfl
  have hg__law_wide := He.glo_ok X G (c.fact 14 (f := .glo "_law_wide") rfl)
  obtain ⟨fd__law_fraction, Fn__law_fraction⟩ := c.def_ 15 (d := d__law_fraction) rfl
  have hg__law_fraction := He.glo_ok X G (c.fact 15 (f := .glo "_law_fraction") rfl)
  obtain ⟨fd__law_made, Fn__law_made⟩ := c.def_ 16 (d := d__law_made) rfl
  have hg__law_made := He.glo_ok X G (c.fact 16 (f := .glo "_law_made") rfl)
  obtain ⟨fd__law_rest, Fn__law_rest⟩ := c.def_ 17 (d := d__law_rest) rfl
  have hg__law_rest := He.glo_ok X G (c.fact 17 (f := .glo "_law_rest") rfl)
  obtain ⟨fd__law_total, Fn__law_total⟩ := c.def_ 18 (d := d__law_total) rfl
  have hg__law_total := He.glo_ok X G (c.fact 18 (f := .glo "_law_total") rfl)
  obtain ⟨fd__law_one_holds, Fn__law_one_holds⟩ := c.def_ 19 (d := d__law_one_holds) rfl
  have hg__law_one_holds := He.glo_ok X G (c.fact 19 (f := .glo "_law_one_holds") rfl)
  obtain ⟨fd__law_two_hold, Fn__law_two_hold⟩ := c.def_ 20 (d := d__law_two_hold) rfl
  have hg__law_two_hold := He.glo_ok X G (c.fact 20 (f := .glo "_law_two_hold") rfl)
  obtain ⟨fd__law_sum_holds, Fn__law_sum_holds⟩ := c.def_ 21 (d := d__law_sum_holds) rfl
  have hg__law_sum_holds := He.glo_ok X G (c.fact 21 (f := .glo "_law_sum_holds") rfl)
  obtain ⟨fd__law_wrong_holds, Fn__law_wrong_holds⟩ := c.def_ 22 (d := d__law_wrong_holds) rfl
  have hg__law_wrong_holds := He.glo_ok X G (c.fact 22 (f := .glo "_law_wrong_holds") rfl)
  obtain ⟨fd_law, Fn_law⟩ := c.def_ 23 (d := d_law) rfl
  have hg_law := He.glo_ok X G (c.fact 23 (f := .glo "law") rfl)
  obtain ⟨e0, r0⟩ := He.ba (show (((decide (PySem.W.nsIn K mainGlobals "gcd" = some (some (.builtin "math.gcd")))) && ((gloB K "ZERO" (.tup [(.int 0), (.int 1)])) && ((tabB K xnL ["value", "second", "first"]) && ((catchB K xnL (.own "InvalidMoment") ["InvalidMoment"]) && ((catchB K xnL (.own "BellError") ["InvalidMoment", "Backwards"]) && ((catchB K xnL (.ty "ValueError") ["InvalidMoment", "Backwards"]) && ((catchB K xnL (.own "Backwards") ["Backwards"]) && ((catchB K xnL (.own "InvalidSpan") []) && true))))))))) = true from c0.more)
  obtain ⟨e1, r1⟩ := He.ba (show (((gloB K "ZERO" (.tup [(.int 0), (.int 1)])) && ((tabB K xnL ["value", "second", "first"]) && ((catchB K xnL (.own "InvalidMoment") ["InvalidMoment"]) && ((catchB K xnL (.own "BellError") ["InvalidMoment", "Backwards"]) && ((catchB K xnL (.ty "ValueError") ["InvalidMoment", "Backwards"]) && ((catchB K xnL (.own "Backwards") ["Backwards"]) && ((catchB K xnL (.own "InvalidSpan") []) && true)))))))) = true from r0)
  obtain ⟨e2, r2⟩ := He.ba (show (((tabB K xnL ["value", "second", "first"]) && ((catchB K xnL (.own "InvalidMoment") ["InvalidMoment"]) && ((catchB K xnL (.own "BellError") ["InvalidMoment", "Backwards"]) && ((catchB K xnL (.ty "ValueError") ["InvalidMoment", "Backwards"]) && ((catchB K xnL (.own "Backwards") ["Backwards"]) && ((catchB K xnL (.own "InvalidSpan") []) && true))))))) = true from r1)
  obtain ⟨e3, r3⟩ := He.ba (show (((catchB K xnL (.own "InvalidMoment") ["InvalidMoment"]) && ((catchB K xnL (.own "BellError") ["InvalidMoment", "Backwards"]) && ((catchB K xnL (.ty "ValueError") ["InvalidMoment", "Backwards"]) && ((catchB K xnL (.own "Backwards") ["Backwards"]) && ((catchB K xnL (.own "InvalidSpan") []) && true)))))) = true from r2)
  obtain ⟨e4, r4⟩ := He.ba (show (((catchB K xnL (.own "BellError") ["InvalidMoment", "Backwards"]) && ((catchB K xnL (.ty "ValueError") ["InvalidMoment", "Backwards"]) && ((catchB K xnL (.own "Backwards") ["Backwards"]) && ((catchB K xnL (.own "InvalidSpan") []) && true))))) = true from r3)
  obtain ⟨e5, r5⟩ := He.ba (show (((catchB K xnL (.ty "ValueError") ["InvalidMoment", "Backwards"]) && ((catchB K xnL (.own "Backwards") ["Backwards"]) && ((catchB K xnL (.own "InvalidSpan") []) && true)))) = true from r4)
  obtain ⟨e6, r6⟩ := He.ba (show (((catchB K xnL (.own "Backwards") ["Backwards"]) && ((catchB K xnL (.own "InvalidSpan") []) && true))) = true from r5)
  obtain ⟨e7, r7⟩ := He.ba (show (((catchB K xnL (.own "InvalidSpan") []) && true)) = true from r6)
  obtain ⟨n_InvalidMoment, i_InvalidMoment⟩ := xi_ok (P := P) (d := x_InvalidMoment) (c0.xi 0 x_InvalidMoment rfl).1 (c0.xi 0 x_InvalidMoment rfl).2
  obtain ⟨n_Backwards, i_Backwards⟩ := xi_ok (P := P) (d := x_Backwards) (c0.xi 1 x_Backwards rfl).1 (c0.xi 1 x_Backwards rfl).2
  have T : Txt P ⟨K, clsOf K xnL⟩ mg := ⟨He.free_ok X G (c.fact 24 (f := .free "isinstance") rfl),
    He.free_ok X G (c.fact 25 (f := .free "int") rfl),
    He.free_ok X G (c.fact 26 (f := .free "bool") rfl),
    He.free_ok X G (c.fact 27 (f := .free "tuple") rfl),
    He.free_ok X G (c.fact 28 (f := .free "len") rfl),
    He.free_ok X G (c.fact 29 (f := .free "all") rfl),
    He.free_ok X G (c.fact 30 (f := .free "range") rfl),
    He.free_ok X G (c.fact 31 (f := .free "str") rfl),
    He.free_ok X G (c.fact 32 (f := .free "max") rfl),
    He.free_ok X G (c.fact 33 (f := .free "ValueError") rfl),
    He.free_ok X G (c.fact 34 (f := .free "list") rfl),
    He.free_ok X G (c.fact 35 (f := .free "reversed") rfl),
    He.free_ok X G (c.fact 36 (f := .free "super") rfl),
    PySem.W.mg_of X G (of_decide_eq_true e0),
    gloB_ok X G e1,
    He.glo_ok X G (c.fact 37 (f := .glo "BellError") rfl),
    PySem.W.mg_of X G n_InvalidMoment,
    PySem.W.mg_of X G n_Backwards,
    He.glo_ok X G (c.fact 38 (f := .glo "InvalidSpan") rfl),
    (by exact clsOf_in (K := K) (names := xnL) (c := "InvalidMoment") (by decide +kernel)),
    makes1 i_InvalidMoment t_InvalidMoment,
    (by exact clsOf_in (K := K) (names := xnL) (c := "Backwards") (by decide +kernel)),
    makes2 i_Backwards t_Backwards,
    catchB_ok e3,
    catchB_ok e4,
    catchB_ok e5,
    catchB_ok e6,
    catchB_ok e7,
    ⟨hS, He.free_ok X G (c.fact 36 (f := .free "super") rfl)⟩,
    tabB_ok e2⟩
  have e := hfa.symm.trans hg_law
  cases e
  have b := FunD.bindsA (ps := ["_law_script"]) Fn_law fun _ _ _ _ _ _ us hl => match us, hl with | [_], _ => rfl
  refine ⟨fd_law, fun s v => b s [v] rfl, fun base _ _ => ?_⟩
  let Z : SC := ⟨K, clsOf K xnL⟩
  have O_is_whole := (ok_is_whole (P := P) (w := w) (Z := Z) (base := base) T Fn_is_whole hg_is_whole )
  have O_is_moment := (ok_is_moment (P := P) (w := w) (Z := Z) (base := base) T Fn_is_moment hg_is_moment O_is_whole)
  have O_moment := (ok_moment (P := P) (w := w) (Z := Z) (base := base) T Fn_moment hg_moment )
  have OK_moment_1_denominator := okK_moment_1_denominator (P := P) (w := w) (Z := Z) (base := base) T Fn_moment hg_moment 
  have O_added := (ok_added (P := P) (w := w) (Z := Z) (base := base) T Fn_added hg_added O_moment)
  have O_since := (ok_since (P := P) (w := w) (Z := Z) (base := base) T Fn_since hg_since O_moment)
  have O_compared := (ok_compared (P := P) (w := w) (Z := Z) (base := base) T Fn_compared hg_compared )
  have O_halfway := (ok_halfway (P := P) (w := w) (Z := Z) (base := base) T Fn_halfway hg_halfway O_moment)
  have O_whole_and_part := (ok_whole_and_part (P := P) (w := w) (Z := Z) (base := base) T Fn_whole_and_part hg_whole_and_part )
  have O__law_box := (ok__law_box (P := P) (w := w) (Z := Z) (base := base) T Fn__law_box hg__law_box )
  have O__law_draw := (ok__law_draw (P := P) (w := w) (Z := Z) (base := base) T Fn__law_draw hg__law_draw )
  have O__law_pick := (ok__law_pick (P := P) (w := w) (Z := Z) (base := base) T Fn__law_pick hg__law_pick O__law_draw)
  have O__law_same := (ok__law_same (P := P) (w := w) (Z := Z) (base := base) T Fn__law_same hg__law_same  8)
  have O__law_gcd := (ok__law_gcd (P := P) (w := w) (Z := Z) (base := base) T Fn__law_gcd hg__law_gcd )
  have O__law_lowest := (ok__law_lowest (P := P) (w := w) (Z := Z) (base := base) T Fn__law_lowest hg__law_lowest O__law_gcd)
  have O__law_wide := (ok__law_wide (P := P) (w := w) (Z := Z) (base := base) T Fn__law_wide hg__law_wide O__law_draw)
  have O__law_fraction := (ok__law_fraction (P := P) (w := w) (Z := Z) (base := base) T Fn__law_fraction hg__law_fraction O__law_draw O__law_pick O__law_lowest O__law_wide)
  have O__law_made := (ok__law_made (P := P) (w := w) (Z := Z) (base := base) T Fn__law_made hg__law_made O_moment)
  have O__law_rest := (ok__law_rest (P := P) (w := w) (Z := Z) (base := base) T Fn__law_rest hg__law_rest O_since)
  have O__law_total := (ok__law_total (P := P) (w := w) (Z := Z) (base := base) T Fn__law_total hg__law_total O_added)
  have O__law_one_holds := (ok__law_one_holds (P := P) (w := w) (Z := Z) (base := base) T Fn__law_one_holds hg__law_one_holds O__law_lowest O__law_same O__law_draw O_whole_and_part O__law_made O_is_moment)
  have O__law_two_hold := (ok__law_two_hold (P := P) (w := w) (Z := Z) (base := base) T Fn__law_two_hold hg__law_two_hold O__law_same O__law_rest O_compared O_halfway O__law_lowest)
  have O__law_sum_holds := (ok__law_sum_holds (P := P) (w := w) (Z := Z) (base := base) T Fn__law_sum_holds hg__law_sum_holds O__law_same O__law_lowest O__law_total)
  have O__law_wrong_holds := (ok__law_wrong_holds (P := P) (w := w) (Z := Z) (base := base) T Fn__law_wrong_holds hg__law_wrong_holds O__law_draw O__law_same O_is_moment O__law_made)
  exact fn_law T Fn_law hg_law O__law_box O__law_wrong_holds O__law_same O__law_draw O__law_fraction O__law_one_holds O__law_sum_holds O_moment O__law_two_hold OK_moment_1_denominator
end K00

open PySem PySem.W PySem.Calls PyProof.Rows
theorem PySem.Challenge.cw_bellrest_k00_moments_holds : PySem.Challenge.rw_bellrest_k00_moments.Holds := by
  w_on; o_law
  refine HandSHeadRun.head_imp (r := OpenLaw.row PySem.Challenge.rw_bellrest_k00_moments) (q := K00.qv) (H := K00.hk) (ob := K00.ob) (M := 4000) (loose := K00.names) (d := HandSHeadRun.topDef (OpenLaw.row PySem.Challenge.rw_bellrest_k00_moments).prog 32) (kwd := []) K00.ob_eq
    K00.run (by kernel_rfl) (by kernel_rfl) (by kernel_rfl) (by rfl) (by first | assumption | decide +kernel) (by decide +kernel) ⟨rfl, rfl, rfl, rfl, rfl, by decide +kernel⟩ ?hw ?hc
  case hw => w_witness2
  case hc =>
    refine DL.walk_ofEB (l := PySem.Challenge.rw_bellrest_k00_moments) (n := 63) (k := 10) (x := "_law_script") rfl (by decide) (by kernel_rfl) ⟨rfl, by decide, by decide⟩ ?F
    intro w mg fa h Y G hmg0
    obtain ⟨K, KX, c⟩ := Y
    have hmg : mg ("law" : PySem.Str) = some (.ref fa) := by
      have e : (HandSHeadRun.topDef (OpenLaw.row PySem.Challenge.rw_bellrest_k00_moments).prog 32).name = ("law" : PySem.Str) := by kernel_rfl
      rw [← e]
      exact hmg0
    obtain ⟨fd, hb, hF⟩ := K00.facts (P := (PySem.Challenge.rw_bellrest_k00_moments).prog) (w := w) (by kernel_rfl) (by kernel_rfl) KX G hmg c
    exact ⟨⟨K, DL.clsOf K K00.xnL⟩, fd, K00.F_law, KX, hb, K00.math, hF⟩

