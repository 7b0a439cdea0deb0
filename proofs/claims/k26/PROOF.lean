import PyProof.Rows.All
import Wide.All
import OpenK.AllK
import Wide.FinOn
import HandS.ForMost
import HandS.Evl
import HandS.Wide
import HandS.IsInst
import HandS.Star
import HandS.Defaults
import HandS.TupAny
import HandS.Conv
import HandS.More
import HandS.NestedK
import HandS.SortInts
import KE.DataMinMax
import KE.SortData
import KE.KTupSum
import KE.KSuper
import KE.KSuperObj
import HandS.ClsMeth
import HandS.Nested
import HandS.Deep
import HandS.Style
import HandS.Ends
import HandS.RaiseMore
import HandS.SetFor
import HandS.Strs
import PySem.Challenge.RW_askedcodes_k26_whole_runs_are_polynomial
import KE.RegKSuper
set_option Elab.async false
set_option maxRecDepth 100000
set_option maxHeartbeats 4000000
set_option linter.all false
set_option autoImplicit false
/-! Data and what stands for it: a calculus of weakest conditions over plain data. -/
namespace DW
open PySem L2

/-- the tables of code objects that may grow, and the names of what they tell -/
class Tb where
  tabs : List Addr
  nm : Addr → Nat → Nat → Str
variable [Tb]
def Tb.tab (a : Addr) : Bool := decide (a ∈ Tb.tabs)

/-- a function value: what stands at its address, its code object, the name of that, the captured cells -/
structure FV where
  G : Addr → HO
  c : Addr
  q : Str
  cl : List (Str × Addr)

inductive D where
  | non | bl (b : Bool) | int (i : Int) | str (x : Str) | lst (l : List D) | tup (l : List D) | obj (C : Addr) (ns : List Str) (l : List D) | raw (v : V) | own (l : List D) | dk (ks : List Key) (l : List D) | fn (F : FV) (cvs : List V) (l : List D)

abbrev Ex := Evl.Ex

mutual
inductive Rp (K : PySem.W.Frag) (H : Hp) : V → D → Prop
  | non : Rp K H .non .non
  | bl (b : Bool) : Rp K H (.bl b) (.bl b)
  | int (i : Int) : Rp K H (.int i) (.int i)
  | str (x : Str) : Rp K H (.str x) (.str x)
  | lst {a : Addr} {xs : List V} {ds : List D} : H a = some (.lst xs) → Rps K H xs ds → Rp K H (.ref a) (.lst ds)
  | tup {a : Addr} {xs : List V} {ds : List D} : SqT K H a xs → Rps K H xs ds → Rp K H (.ref a) (.tup ds)
  | obj {a C dx : Addr} {ns : List Str} {xs : List V} {ds : List D} : H a = some (.ins C dx (ns.zip xs)) → xs.length = ns.length → Rps K H xs ds → Rp K H (.ref a) (.obj C ns ds)
  | raw (v : V) : Rp K H v (.raw v)
  | dk {a : Addr} {ks : List Key} {xs : List V} {ds : List D} : H a = some (.dK (ks.zip xs)) → xs.length = ks.length → Rps K H xs ds → Rp K H (.ref a) (.dk ks ds)
  | fn {a : Addr} {F : FV} {xs : List V} {ds : List D} : H a = some (F.G a) → H F.c = some (LamX.CodeO F.c F.q) → Rps K H xs ds → Rp K H (.ref a) (.fn F xs ds)
inductive Rps (K : PySem.W.Frag) (H : Hp) : List V → List D → Prop
  | nil : Rps K H [] []
  | cons {v : V} {vs : List V} {d : D} {ds : List D} : Rp K H v d → Rps K H vs ds → Rps K H (v :: vs) (d :: ds)
end

mutual
theorem Rp.mono {K : PySem.W.Frag} {H H' : Hp} (e : Ex H H') : ∀ {v : V} {d : D}, Rp K H v d → Rp K H' v d
  | _, _, .non => .non
  | _, _, .bl b => .bl b
  | _, _, .int i => .int i
  | _, _, .str x => .str x
  | _, _, .lst h r => .lst (e _ _ h) (Rps.mono e r)
  | _, _, .tup h r => .tup (Evl.ex_t e h) (Rps.mono e r)
  | _, _, .obj h l r => .obj (e _ _ h) l (Rps.mono e r)
  | _, _, .raw v => .raw v
  | _, _, .dk h l r => .dk (e _ _ h) l (Rps.mono e r)
  | _, _, .fn h g r => .fn (e _ _ h) (e _ _ g) (Rps.mono e r)
theorem Rps.mono {K : PySem.W.Frag} {H H' : Hp} (e : Ex H H') : ∀ {vs : List V} {ds : List D}, Rps K H vs ds → Rps K H' vs ds
  | _, _, .nil => .nil
  | _, _, .cons a b => .cons (Rp.mono e a) (Rps.mono e b)
end

section
variable {K : PySem.W.Frag} {H H' : Hp}
theorem Rps.length : ∀ {vs : List V} {ds : List D}, Rps K H vs ds → vs.length = ds.length
  | _, _, .nil => rfl
  | _, _, .cons _ b => by simp [Rps.length b]
theorem Rps.get : ∀ {vs : List V} {ds : List D} {i : Nat} {d : D}, Rps K H vs ds → ds[i]? = some d → ∃ v, vs[i]? = some v ∧ Rp K H v d
  | _, _, i, d, .nil, h => by simp at h
  | _, _, 0, d, .cons a b, h => by simp at h; subst h; exact ⟨_, rfl, a⟩
  | _, _, i + 1, d, .cons a b, h => by
    obtain ⟨v, h1, h2⟩ := Rps.get (i := i) b (by simpa using h)
    exact ⟨v, by simpa using h1, h2⟩
theorem Rps.getV : ∀ {vs : List V} {ds : List D} {i : Nat} {v : V}, Rps K H vs ds → vs[i]? = some v → ∃ d, ds[i]? = some d ∧ Rp K H v d
  | _, _, i, d, .nil, h => by simp at h
  | _, _, 0, d, .cons a b, h => by simp at h; subst h; exact ⟨_, rfl, a⟩
  | _, _, i + 1, d, .cons a b, h => by
    obtain ⟨v, h1, h2⟩ := Rps.getV (i := i) b (by simpa using h)
    exact ⟨v, by simpa using h1, h2⟩
theorem Rps.append : ∀ {xs : List V} {ds : List D} {ys : List V} {es : List D}, Rps K H xs ds → Rps K H ys es → Rps K H (xs ++ ys) (ds ++ es)
  | _, _, _, _, .nil, s => s
  | _, _, _, _, .cons r t, s => .cons r (Rps.append t s)
theorem Rps.take : ∀ {xs : List V} {ds : List D} (n : Nat), Rps K H xs ds → Rps K H (xs.take n) (ds.take n)
  | _, _, 0, _ => .nil
  | _, _, _ + 1, .nil => .nil
  | _, _, n + 1, .cons r t => .cons r (Rps.take n t)
theorem Rps.drop : ∀ {xs : List V} {ds : List D} (n : Nat), Rps K H xs ds → Rps K H (xs.drop n) (ds.drop n)
  | _, _, 0, r => r
  | _, _, _ + 1, .nil => .nil
  | _, _, n + 1, .cons _ t => Rps.drop n t
theorem Rps.set {v : V} {d : D} (r : Rp K H v d) : ∀ {xs : List V} {ds : List D} (i : Nat), Rps K H xs ds → Rps K H (xs.set i v) (ds.set i d)
  | _, _, _, .nil => .nil
  | _, _, 0, .cons _ t => .cons r t
  | _, _, i + 1, .cons q t => .cons q (Rps.set r i t)
theorem Rps.ints : ∀ {xs : List V} {ns : List Int}, Rps K H xs (ns.map D.int) → xs = ns.map V.int
  | _, [], .nil => rfl
  | _, n :: ns, .cons a b => by cases a; rw [Rps.ints b]; rfl
theorem Rps.bls : ∀ {xs : List V} {ns : List Bool}, Rps K H xs (ns.map D.bl) → xs = ns.map V.bl
  | _, [], .nil => rfl
  | _, n :: ns, .cons a b => by cases a; rw [Rps.bls b]; rfl
theorem Rps.strs : ∀ {xs : List V} {ns : List Str}, Rps K H xs (ns.map D.str) → xs = ns.map V.str
  | _, [], .nil => rfl
  | _, n :: ns, .cons a b => by cases a; rw [Rps.strs b]; rfl
theorem Rps.of_ints : ∀ (ns : List Int), Rps K H (ns.map V.int) (ns.map D.int)
  | [] => .nil
  | _ :: ns => .cons (.int _) (Rps.of_ints ns)
end

/-- no table of code objects -/
def noT : HO → Bool
  | .tbl _ => false
  | _ => true
theorem noT_of {o : HO} (h : noT o = true) : ∀ ps, o ≠ .tbl ps := fun ps e => by subst e; cases h
/-- what cannot change -/
def cut (S : Addr → Bool) (H : Hp) : Hp := fun a => if S a = true then none else (H a).filter noT
theorem cut_some3 {S : Addr → Bool} {H : Hp} {a : Addr} {o : HO} (h : cut S H a = some o) : S a = false ∧ H a = some o ∧ noT o = true := by
  unfold cut at h
  split at h
  · cases h
  · rename_i q
    rw [Option.filter_eq_some_iff] at h
    exact ⟨by simpa using q, h⟩
theorem cut_some {S : Addr → Bool} {H : Hp} {a : Addr} {o : HO} (h : cut S H a = some o) : S a = false ∧ H a = some o := ⟨(cut_some3 h).1, (cut_some3 h).2.1⟩
theorem cut_nt {S : Addr → Bool} {H : Hp} {a : Addr} {o : HO} (h : cut S H a = some o) : noT o = true := (cut_some3 h).2.2
theorem cut_mk {S : Addr → Bool} {H : Hp} {a : Addr} {o : HO} (h : S a = false) (e : H a = some o) (hn : noT o = true := by rfl) : cut S H a = some o := by
  unfold cut
  rw [if_neg (by rw [h]; simp), e]
  simp [Option.filter, hn]
theorem cut_ex (S : Addr → Bool) (H : Hp) : Ex (cut S H) H := fun a o h => (cut_some h).2

/-- the pen: cells, the next one's index, what is left of a great one -/
def PenOk (K : PySem.W.Frag) (S : Addr → Bool) (H : Hp) (p : Addr) (n : Nat) : Prop := ∃ (c : Addr) (ix left : Int) (ns : List Int),
  H p = some (.lst [.ref c, .int ix, .int left]) ∧ cut S H c = some (.lst (ns.map V.int)) ∧ ns.length ≤ 63 ∧ 0 ≤ ix ∧ ix ≤ n ∧ 0 ≤ left
def TabOk (H : Hp) (P : Addr) : Prop := NdefX.TabN H P (Tb.nm P)
theorem TabOk.ext {H H' : Hp} {P : Addr} (t : TabOk H P) (e : ∀ b o, H b = some o → H' b = some o) : TabOk H' P := NdefX.TabN.ext t e
/-- neither the pen nor a table -/
def Free (w : Option Addr) (a : Addr) : Prop := w ≠ some a ∧ Tb.tab a = false
/-- neither a table nor a thing told by a look at the heap -/
def plainO : HO → Bool
  | .tbl _ => false
  | .ext _ => false
  | _ => true
theorem plain_nt {o : HO} (h : plainO o = true) : noT o = true := by cases o <;> first | rfl | cases h
structure OkW (K : PySem.W.Frag) (w : Option Addr) (S : Addr → Bool) (H : Hp) (n : Nat) : Prop where
  pen : ∀ p, w = some p → S p = true ∧ PenOk K S H p n
  all : ∀ a, S a = true → ∃ o, H a = some o
  tabs : ∀ a, Tb.tab a = true → S a = true ∧ TabOk H a
  kinds : ∀ a, S a = true → Tb.tab a = true ∨ ∃ o, H a = some o ∧ plainO o = true
structure Pres (w : Option Addr) (H H' : Hp) : Prop where
  go : ∀ (a : Addr) (o : HO), Free w a → H a = some o → noT o = true → H' a = some o
  back : ∀ a, H' a = none → H a = none

section
variable {K : PySem.W.Frag} {w : Option Addr} {S : Addr → Bool} {H H0 H1 H2 H' : Hp} {n m : Nat}
theorem Pres.refl : Pres w H H := ⟨fun _ _ _ h _ => h, fun _ h => h⟩
theorem Pres.trans (a : Pres w H H1) (b : Pres w H1 H2) : Pres w H H2 := ⟨fun x o n h t => b.go x o n (a.go x o n h t) t, fun x h => a.back x (b.back x h)⟩
theorem Pres.of (e : Ex H H') : Pres w H H' := ⟨fun a o _ h _ => e a o h, fun a h => by
  cases z : H a with
  | none => rfl
  | some o => rw [e a o z] at h; cases h⟩
theorem Pres.new {p : Addr} {o : HO} (h : H p = none) : Pres w H (upd H p o) := Pres.of (Evl.Ex.new h)
theorem ex_cut (ok : OkW K w S H n) (h : Pres w H H') : Ex (cut S H) (cut S H') := fun a o e => by
  obtain ⟨h1, h2, h3⟩ := cut_some3 e
  refine cut_mk h1 (h.go a o ⟨fun q => ?_, ?_⟩ h2 h3) h3
  · have := (ok.1 a q).1
    rw [h1] at this; cases this
  · cases z : Tb.tab a with
    | false => rfl
    | true => have := (ok.3 a z).1; rw [h1] at this; cases this
theorem OkW.fresh (ok : OkW K w S H n) {p : Addr} (h : H p = none) : S p = false := by
  cases q : S p with
  | false => rfl
  | true =>
    obtain ⟨o, e⟩ := ok.2 p q
    rw [h] at e; cases e
theorem OkW.w_ne (ok : OkW K w S H n) {p : Addr} (h : S p = false) : Free w p := by
  refine ⟨fun q => ?_, ?_⟩
  · have := (ok.1 p q).1
    rw [h] at this; cases this
  · cases z : Tb.tab p with
    | false => rfl
    | true => have := (ok.3 p z).1; rw [h] at this; cases this
/-- what does not touch the pen keeps all -/
theorem OkW.ex (ok : OkW K w S H n) (e : Ex H H') : OkW K w S H' n := by
  refine ⟨fun p hp => ⟨(ok.1 p hp).1, ?_⟩, fun a h => ?_, fun a h => ⟨(ok.3 a h).1, (ok.3 a h).2.ext e⟩, fun a h => (ok.4 a h).imp id fun ⟨o, z, t⟩ => ⟨o, e _ _ z, t⟩⟩
  · obtain ⟨c, ix, left, ns, h1, h2, h3⟩ := (ok.1 p hp).2
    exact ⟨c, ix, left, ns, e _ _ h1, ex_cut ok (Pres.of e) _ _ h2, h3⟩
  · obtain ⟨o, h⟩ := ok.2 a h
    exact ⟨o, e _ _ h⟩
theorem OkW.new (ok : OkW K w S H n) {p : Addr} {o : HO} (h : H p = none) : OkW K w S (upd H p o) n := ok.ex (Evl.Ex.new h)
theorem OkW.mono (ok : OkW K w S H n) (h : n ≤ m) : OkW K w S H m := by
  refine ⟨fun p hp => ⟨(ok.1 p hp).1, ?_⟩, ok.2, ok.3, ok.4⟩
  obtain ⟨c, ix, left, ns, h1, h2, h3, h4, h5, h6⟩ := (ok.1 p hp).2
  exact ⟨c, ix, left, ns, h1, h2, h3, h4, by omega, h6⟩
theorem cut_new (ok : OkW K w S H n) {p : Addr} {o : HO} (h : H p = none) (hn : noT o = true := by rfl) : cut S (upd H p o) p = some o := cut_mk (ok.fresh h) upd_same hn
end

def isOwn : D → Bool
  | .own _ => true
  | _ => false

/-- the frame's slots stand for data; none: nothing is known -/
structure RpE (K : PySem.W.Frag) (w : Option Addr) (S : Addr → Bool) (H0 H : Hp) (σ : St) (ds : List (Option D)) : Prop where
  len : σ.length = ds.length
  get : ∀ (i : Nat) (d : D), ds[i]? = some (some d) → isOwn d = false → ∃ v : V, σ[i]? = some (some v) ∧ Rp K (cut S H) v d
  own : ∀ (i : Nat) (l : List D), ds[i]? = some (some (.own l)) → ∃ (a : Addr) (xs : List V), σ[i]? = some (some (.ref a)) ∧ S a = true ∧ Free w a ∧ H0 a = none ∧ H a = some (.lst xs) ∧ Rps K (cut S H) xs l
  dis : ∀ (i j : Nat) (l m : List D) (a : Addr), i ≠ j → ds[i]? = some (some (.own l)) → ds[j]? = some (some (.own m)) → σ[i]? = some (some (.ref a)) → σ[j]? ≠ some (some (.ref a))
section
variable {K : PySem.W.Frag} {w : Option Addr} {S : Addr → Bool} {H H0 H1 H2 H' : Hp} {n m : Nat} {σ : St} {ds : List (Option D)}
theorem RpE.up (r : RpE K w S H0 H σ ds) (ok : OkW K w S H n) (h : Pres w H H') : RpE K w S H0 H' σ ds where
  len := r.len
  get := fun i d e o => by
    obtain ⟨v, h1, h2⟩ := r.get i d e o
    exact ⟨v, h1, h2.mono (ex_cut ok h)⟩
  own := fun i l e => by
    obtain ⟨a, xs, h1, h2, h3, h0, h4, h5⟩ := r.own i l e
    exact ⟨a, xs, h1, h2, h3, h0, h.go a _ h3 h4 rfl, h5.mono (ex_cut ok h)⟩
  dis := r.dis
end
abbrev Kn := D → Nat → Prop
def Po (K : PySem.W.Frag) (w : Option Addr) (S : Addr → Bool) (H : Hp) (k : Kn) (Q : VK) : Prop :=
  ∀ (v : V) (H' : Hp) (d : D) (n' : Nat), k d n' → Pres w H H' → OkW K w S H' n' → Rp K (cut S H') v d → Q v H'
def WpE (K : PySem.W.Frag) (w : Option Addr) (te : TE) (ds : List (Option D)) (n : Nat) (k : Kn) : Prop :=
  ∀ (S : Addr → Bool) (H0 : Hp) (σ : St) (H : Hp) (Q : VK), RpE K w S H0 H σ ds → OkW K w S H n → Po K w S H k Q → te σ H Q
def WpT (K : PySem.W.Frag) (w : Option Addr) (tt : TT) (ds : List (Option D)) (n : Nat) (k : Bool → Nat → Prop) : Prop :=
  ∀ (S : Addr → Bool) (H0 : Hp) (σ : St) (H : Hp) (Q : Bool → Hp → Prop), RpE K w S H0 H σ ds → OkW K w S H n → (∀ (b : Bool) (H' : Hp) (n' : Nat), k b n' → Pres w H H' → OkW K w S H' n' → Q b H') → tt σ H Q
def WpA (K : PySem.W.Frag) (w : Option Addr) (ta : TA) (ds : List (Option D)) (n : Nat) (k : List D → Nat → Prop) : Prop :=
  ∀ (S : Addr → Bool) (H0 : Hp) (σ : St) (H : Hp) (Q : List V → Hp → Prop), RpE K w S H0 H σ ds → OkW K w S H n → (∀ (vs : List V) (H' : Hp) (es : List D) (n' : Nat), k es n' → Pres w H H' → OkW K w S H' n' → Rps K (cut S H') vs es → Q vs H') → ta σ H Q
def RD (K : PySem.W.Frag) (w : Option Addr) (r : R2) (d e : D) (n : Nat) (k : Kn) : Prop :=
  ∀ (S : Addr → Bool) (v u : V) (H : Hp) (Q : VK), Rp K (cut S H) v d → Rp K (cut S H) u e → OkW K w S H n → Po K w S H k Q → r v u H Q
def RU (K : PySem.W.Frag) (w : Option Addr) (r : V → Hp → VK → Prop) (d : D) (n : Nat) (k : Kn) : Prop :=
  ∀ (S : Addr → Bool) (v : V) (H : Hp) (Q : VK), Rp K (cut S H) v d → OkW K w S H n → Po K w S H k Q → r v H Q
/-- a call by values -/
def RC (K : PySem.W.Frag) (w : Option Addr) (r : List V → Hp → VK → Prop) (es : List D) (n : Nat) (k : Kn) : Prop :=
  ∀ (S : Addr → Bool) (vs : List V) (H : Hp) (Q : VK), Rps K (cut S H) vs es → OkW K w S H n → Po K w S H k Q → r vs H Q

section
variable {K : PySem.W.Frag} {w : Option Addr} {S : Addr → Bool} {H H0 H1 H2 H' : Hp} {n m : Nat} {σ : St} {ds : List (Option D)} {ta tb te : TE} {t u : TT} {tA tR : TA} {k k' : Kn} {d e : D}
theorem Po.from {Q : VK} (p : Po K w S H k Q) (h : Pres w H H') : Po K w S H' k Q := fun v H2 d n2 hk pr ok r => p v H2 d n2 hk (h.trans pr) ok r
theorem Po.imp {Q : VK} (p : Po K w S H k' Q) (h : ∀ d n, k d n → k' d n) : Po K w S H k Q := fun v H2 d n2 hk pr ok r => p v H2 d n2 (h _ _ hk) pr ok r
theorem WpE.imp (h : WpE K w te ds n k) (hk : ∀ d n, k d n → k' d n) : WpE K w te ds n k' := fun S H0 σ H Q r ok p => h S H0 σ H Q r ok (p.imp hk)
theorem e_var {i : Nat} (h : ds[i]? = some (some d)) (hk : k d n) (ho : isOwn d = false := by rfl) : WpE K w (tVar i) ds n k := fun S H0 σ H Q r ok p => by
  obtain ⟨v, h1, h2⟩ := r.get i d h ho
  exact ⟨v, h1, p v H d n hk Pres.refl ok h2⟩
theorem e_int {i : Int} (hk : k (.int i) n) : WpE K w (tC (.int i)) ds n k := fun S H0 σ H Q r ok p => p _ H _ n hk Pres.refl ok (.int i)
theorem e_str {i : Str} (hk : k (.str i) n) : WpE K w (tC (.str i)) ds n k := fun S H0 σ H Q r ok p => p _ H _ n hk Pres.refl ok (.str i)
theorem e_bl {i : Bool} (hk : k (.bl i) n) : WpE K w (tC (.bl i)) ds n k := fun S H0 σ H Q r ok p => p _ H _ n hk Pres.refl ok (.bl i)
theorem e_non (hk : k .non n) : WpE K w (tC .non) ds n k := fun S H0 σ H Q r ok p => p _ H _ n hk Pres.refl ok .non
theorem e_raw {v : V} (hk : k (.raw v) n) : WpE K w (tC v) ds n k := fun S H0 σ H Q r ok p => p _ H _ n hk Pres.refl ok (.raw v)
/-- a tuple of the module -/
theorem e_tupK {a : Addr} {xs : List V} {l : List D} (hT : SqT K (fun _ => none) a xs) (hx : Rps K (fun _ => none) xs l) (hk : k (.tup l) n) : WpE K w (tC (.ref a)) ds n k := fun S H0 σ H Q r ok p => by
  have e : Ex (fun _ => none) (cut S H) := fun _ _ h => by cases h
  exact p _ H _ n hk Pres.refl ok (.tup (Evl.ex_t e hT) (hx.mono e))
theorem e_op {r : R2} (h : WpE K w ta ds n fun d n1 => WpE K w tb ds n1 fun e n2 => RD K w r d e n2 k) : WpE K w (tOp r ta tb) ds n k := fun S H0 σ H Q re ok p =>
  h S H0 σ H _ re ok fun v H1 d n1 h1 p1 ok1 r1 => h1 S H0 σ H1 _ (re.up ok p1) ok1 fun u H2 e n2 h2 p2 ok2 r2 =>
    h2 S v u H2 Q (r1.mono (ex_cut ok1 p2)) r2 ok2 ((p.from p1).from p2)
theorem e_un {r : V → Hp → VK → Prop} (h : WpE K w ta ds n fun d n1 => RU K w r d n1 k) : WpE K w (tUn r ta) ds n k := fun S H0 σ H Q re ok p =>
  h S H0 σ H _ re ok fun v H1 d n1 h1 p1 ok1 r1 => h1 S v H1 Q r1 ok1 (p.from p1)
theorem a_nil {k : List D → Nat → Prop} (h : k [] n) : WpA K w tNil ds n k := fun S H0 σ H Q re ok p => p [] H [] n h Pres.refl ok .nil
theorem a_cons {k : List D → Nat → Prop} (h : WpE K w te ds n fun d n1 => WpA K w tR ds n1 fun es n2 => k (d :: es) n2) : WpA K w (tCons te tR) ds n k := fun S H0 σ H Q re ok p =>
  h S H0 σ H _ re ok fun v H1 d n1 h1 p1 ok1 r1 => h1 S H0 σ H1 _ (re.up ok p1) ok1 fun vs H2 es n2 h2 p2 ok2 r2 =>
    p (v :: vs) H2 (d :: es) n2 h2 (p1.trans p2) ok2 (.cons (r1.mono (ex_cut ok1 p2)) r2)
theorem e_tup (h : WpA K w tA ds n fun es n1 => es.length ≤ 100000 ∧ k (.tup es) n1) : WpE K w (tTup tA) ds n k := fun S H0 σ H Q re ok p =>
  h S H0 σ H _ re ok fun vs H1 es n1 h1 p1 ok1 r1 => ⟨Evl.sz_of (by rw [r1.length]; exact h1.1), fun q hq =>
    p _ _ _ n1 h1.2 (p1.trans (Pres.new hq)) (ok1.new hq) (.tup (SqT.of (cut_new ok1 hq)) (r1.mono (ex_cut ok1 (Pres.new hq))))⟩
theorem e_lst (h : WpA K w tA ds n fun es n1 => es.length ≤ 100000 ∧ k (.lst es) n1) : WpE K w (tLst tA) ds n k := fun S H0 σ H Q re ok p =>
  h S H0 σ H _ re ok fun vs H1 es n1 h1 p1 ok1 r1 => ⟨Evl.sz_of (by rw [r1.length]; exact h1.1), fun q hq =>
    p _ _ _ n1 h1.2 (p1.trans (Pres.new hq)) (ok1.new hq) (.lst (cut_new ok1 hq) (r1.mono (ex_cut ok1 (Pres.new hq))))⟩
theorem e_cb {r : List V → Hp → VK → Prop} (h : WpA K w tA ds n fun es n1 => RC K w r es n1 k) : WpE K w (tCB r tA) ds n k := fun S H0 σ H Q re ok p =>
  h S H0 σ H _ re ok fun vs H1 es n1 h1 p1 ok1 r1 => h1 S vs H1 Q r1 ok1 (p.from p1)
/-! tests -/
theorem t_test {k : Bool → Nat → Prop} (h : WpE K w te ds n fun d n1 => ∃ b, d = .bl b ∧ k b n1) : WpT K w (tTest te) ds n k := fun S H0 σ H Q re ok p =>
  h S H0 σ H _ re ok fun v H1 d n1 ⟨b, e, hk⟩ p1 ok1 r1 => by
    subst e; cases r1; exact ⟨b, rfl, p b H1 n1 hk p1 ok1⟩
theorem t_B {k : Bool → Nat → Prop} (h : WpE K w te ds n fun d n1 => ∃ b, d = .bl b ∧ k b n1) : WpT K w (tB te) ds n k := fun S H0 σ H Q re ok p =>
  h S H0 σ H _ re ok fun v H1 d n1 ⟨b, e, hk⟩ p1 ok1 r1 => by
    subst e; cases r1; exact ⟨b, rfl, p b H1 n1 hk p1 ok1⟩
theorem t_and {k : Bool → Nat → Prop} (h : WpT K w t ds n fun b n1 => (b = true → WpT K w u ds n1 k) ∧ (b = false → k false n1)) : WpT K w (tAnd t u) ds n k := fun S H0 σ H Q re ok p =>
  h S H0 σ H _ re ok fun b H1 n1 ⟨h1, h2⟩ p1 ok1 => by
    cases b with
    | true => exact h1 rfl S H0 σ H1 Q (re.up ok p1) ok1 fun b H2 n2 hk p2 ok2 => p b H2 n2 hk (p1.trans p2) ok2
    | false => exact p false H1 n1 (h2 rfl) p1 ok1
theorem t_or {k : Bool → Nat → Prop} (h : WpT K w t ds n fun b n1 => (b = true → k true n1) ∧ (b = false → WpT K w u ds n1 k)) : WpT K w (tOr t u) ds n k := fun S H0 σ H Q re ok p =>
  h S H0 σ H _ re ok fun b H1 n1 ⟨h1, h2⟩ p1 ok1 => by
    cases b with
    | false => exact h2 rfl S H0 σ H1 Q (re.up ok p1) ok1 fun b H2 n2 hk p2 ok2 => p b H2 n2 hk (p1.trans p2) ok2
    | true => exact p true H1 n1 (h1 rfl) p1 ok1
theorem t_not {k : Bool → Nat → Prop} (h : WpT K w t ds n fun b n1 => k (!b) n1) : WpT K w (tNot t) ds n k := fun S H0 σ H Q re ok p =>
  h S H0 σ H _ re ok fun b H1 n1 h1 p1 ok1 => p (!b) H1 n1 h1 p1 ok1
theorem e_andV (h : WpE K w ta ds n fun d n1 => ∃ b, d = .bl b ∧ (b = true → WpE K w tb ds n1 k) ∧ (b = false → k (.bl false) n1)) : WpE K w (tAndV ta tb) ds n k := fun S H0 σ H Q re ok p =>
  h S H0 σ H _ re ok fun v H1 d n1 ⟨b, e, h1, h2⟩ p1 ok1 r1 => by
    subst e; cases r1
    refine ⟨b, rfl, ?_⟩
    cases b with
    | true => exact h1 rfl S H0 σ H1 Q (re.up ok p1) ok1 (p.from p1)
    | false => exact p _ H1 _ n1 (h2 rfl) p1 ok1 (.bl false)
theorem e_orV (h : WpE K w ta ds n fun d n1 => ∃ b, d = .bl b ∧ (b = false → WpE K w tb ds n1 k) ∧ (b = true → k (.bl true) n1)) : WpE K w (tOrV ta tb) ds n k := fun S H0 σ H Q re ok p =>
  h S H0 σ H _ re ok fun v H1 d n1 ⟨b, e, h1, h2⟩ p1 ok1 r1 => by
    subst e; cases r1
    refine ⟨b, rfl, ?_⟩
    cases b with
    | false => exact h1 rfl S H0 σ H1 Q (re.up ok p1) ok1 (p.from p1)
    | true => exact p _ H1 _ n1 (h2 rfl) p1 ok1 (.bl true)
theorem e_notV (h : WpE K w ta ds n fun d n1 => ∃ b, d = .bl b ∧ k (.bl (!b)) n1) : WpE K w (tNotV ta) ds n k := fun S H0 σ H Q re ok p =>
  h S H0 σ H _ re ok fun v H1 d n1 ⟨b, e, h1⟩ p1 ok1 r1 => by
    subst e; cases r1
    exact ⟨b, rfl, p _ H1 _ n1 h1 p1 ok1 (.bl _)⟩
theorem e_if (h : WpT K w t ds n fun b n1 => (b = true → WpE K w ta ds n1 k) ∧ (b = false → WpE K w tb ds n1 k)) : WpE K w (tIf t ta tb) ds n k := fun S H0 σ H Q re ok p =>
  h S H0 σ H _ re ok fun b H1 n1 ⟨h1, h2⟩ p1 ok1 => by
    cases b with
    | true => exact h1 rfl S H0 σ H1 Q (re.up ok p1) ok1 (p.from p1)
    | false => exact h2 rfl S H0 σ H1 Q (re.up ok p1) ok1 (p.from p1)
end
end DW
set_option Elab.async false
set_option maxRecDepth 100000
set_option maxHeartbeats 4000000
set_option linter.all false
set_option autoImplicit false
namespace DW
variable [Tb]
open PySem L2

def addS (S : Addr → Bool) (p : Addr) : Addr → Bool := fun a => S a || decide (a = p)
theorem addS_of {S : Addr → Bool} {p a : Addr} (h : S a = true) : addS S p a = true := by unfold addS; rw [h]; rfl
theorem addS_same {S : Addr → Bool} {p : Addr} : addS S p p = true := by unfold addS; simp
theorem addS_ne {S : Addr → Bool} {p a : Addr} (h : addS S p a = true) (n : a ≠ p) : S a = true := by unfold addS at h; simpa [n] using h
theorem addS_or {S : Addr → Bool} {p a : Addr} (h : addS S p a = true) : S a = true ∨ a = p := by unfold addS at h; simpa using h

section
variable {K : PySem.W.Frag} {w : Option Addr} {S : Addr → Bool} {H H0 H1 H2 H' : Hp} {n m : Nat} {σ : St} {ds : List (Option D)}
/-- a new object at p that may change -/
theorem cut_addS {p : Addr} {o : HO} (hp : H p = none) : Ex (cut S H) (cut (addS S p) (upd H p o)) := fun a u e => by
  obtain ⟨h1, h2⟩ := cut_some e
  have ne : a ≠ p := ne_of_none h2 hp
  exact cut_mk (by unfold addS; simp [h1, ne]) (by rw [upd_ne ne]; exact h2) (cut_nt e)
theorem cut_sub {S' : Addr → Bool} (h : ∀ a, S a = true → S' a = true) : Ex (cut S' H) (cut S H) := fun a u e => by
  obtain ⟨h1, h2⟩ := cut_some e
  refine cut_mk ?_ h2 (cut_nt e)
  cases q : S a with
  | false => rfl
  | true => rw [h a q] at h1; cases h1
theorem cut_upd {p : Addr} {o : HO} (h : S p = true) : cut S (upd H p o) = cut S H := by
  funext a
  unfold cut
  by_cases e : a = p
  · subst e; rw [if_pos h, if_pos h]
  · rw [upd_ne e]
theorem OkW.addS (ok : OkW K w S H n) {p : Addr} {o : HO} (hp : H p = none) (ho : plainO o = true := by rfl) : OkW K w (DW.addS S p) (upd H p o) n := by
  refine ⟨fun q hq => ⟨addS_of (ok.1 q hq).1, ?_⟩, fun a h => ?_, fun a h => ⟨addS_of (ok.3 a h).1, (ok.3 a h).2.ext fun b u e => by rw [upd_ne (ne_of_none e hp)]; exact e⟩, fun a h => ?_⟩
  · obtain ⟨c, ix, left, ns, h1, h2, h3⟩ := (ok.1 q hq).2
    exact ⟨c, ix, left, ns, by rw [upd_ne (ne_of_none h1 hp)]; exact h1, cut_addS hp _ _ h2, h3⟩
  · rcases addS_or h with h | h
    · obtain ⟨u, hu⟩ := ok.2 a h
      exact ⟨u, by rw [upd_ne (ne_of_none hu hp)]; exact hu⟩
    · subst h; exact ⟨o, upd_same⟩
  · rcases addS_or h with h | h
    · exact (ok.4 a h).imp id fun ⟨u, hu, t⟩ => ⟨u, by rw [upd_ne (ne_of_none hu hp)]; exact hu, t⟩
    · subst h; exact .inr ⟨o, upd_same, ho⟩
/-- no code object -/
def NotCode (H : Hp) (p : Addr) : Prop := ∀ q, H p ≠ some (LamX.CodeO p q)
theorem NotCode.lst {p : Addr} {xs : List V} (h : H p = some (.lst xs)) : NotCode H p := fun q e => by
  rw [h] at e
  unfold LamX.CodeO at e
  cases e
theorem NotCode.ins {p C dx : Addr} {fs : List (Str × V)} (h : H p = some (.ins C dx fs)) : NotCode H p := fun q e => by
  rw [h] at e
  unfold LamX.CodeO at e
  cases e
theorem TabOk.upd {P p : Addr} {o : HO} (t : TabOk H P) (hp : Tb.tab p = false) (hP : Tb.tab P = true) (nc : NotCode H p) : TabOk (L2.upd H p o) P := by
  obtain ⟨ps, h1, h2, h3⟩ := t
  refine ⟨ps, ?_, h2, fun pos cv hc => ?_⟩
  · rw [upd_ne (fun e => by rw [e, hp] at hP; cases hP)]; exact h1
  · obtain ⟨c, e1, e2⟩ := h3 pos cv hc
    refine ⟨c, e1, ?_⟩
    rw [upd_ne (fun e => by subst e; exact nc _ e2)]; exact e2
theorem OkW.mut (ok : OkW K w S H n) {p : Addr} {o : HO} (hp : S p = true) (hw : Free w p) (nc : NotCode H p) (ho : plainO o = true := by rfl) : OkW K w S (upd H p o) n := by
  refine ⟨fun q hq => ⟨(ok.1 q hq).1, ?_⟩, fun a h => ?_, fun a h => ⟨(ok.3 a h).1, (ok.3 a h).2.upd hw.2 h nc⟩, fun a h => ?_⟩
  · obtain ⟨c, ix, left, ns, h1, h2, h3⟩ := (ok.1 q hq).2
    have ne : q ≠ p := fun e => hw.1 (by rw [hq, e])
    exact ⟨c, ix, left, ns, by rw [upd_ne ne]; exact h1, by rw [cut_upd hp]; exact h2, h3⟩
  · by_cases e : a = p
    · subst e; exact ⟨o, upd_same⟩
    · obtain ⟨u, hu⟩ := ok.2 a h
      exact ⟨u, by rw [upd_ne e]; exact hu⟩
  · by_cases e : a = p
    · subst e; exact .inr ⟨o, upd_same, ho⟩
    · exact (ok.4 a h).imp id fun ⟨u, hu, t⟩ => ⟨u, by rw [upd_ne e]; exact hu, t⟩
theorem OkW.less {S0 : Addr → Bool} (ok : OkW K w S H n) (hs : ∀ a, S0 a = true → S a = true) (hw : ∀ p, w = some p → S0 p = true) (ht : ∀ a, Tb.tab a = true → S0 a = true) : OkW K w S0 H n := by
  refine ⟨fun q hq => ⟨hw q hq, ?_⟩, fun a h => ok.2 a (hs a h), fun a h => ⟨ht a h, (ok.3 a h).2⟩, fun a h => ok.4 a (hs a h)⟩
  obtain ⟨c, ix, left, ns, h1, h2, h3⟩ := (ok.1 q hq).2
  exact ⟨c, ix, left, ns, h1, cut_sub hs _ _ h2, h3⟩
theorem RpE.set (r : RpE K w S H0 H σ ds) {i : Nat} {v : V} {d : D} (hv : Rp K (cut S H) v d) (ho : isOwn d = false) : RpE K w S H0 H (σ.set i (some v)) (ds.set i (some d)) where
  len := by simp [r.len]
  get := fun j e h o => by
    by_cases hj : i = j
    · subst hj
      by_cases hl : i < ds.length
      · rw [List.getElem?_set_self hl] at h
        cases h
        exact ⟨v, by rw [List.getElem?_set_self (by rw [r.len]; exact hl)], hv⟩
      · rw [List.getElem?_eq_none (by simpa using hl)] at h; cases h
    · rw [List.getElem?_set_ne hj] at h ⊢
      exact r.get j e h o
  own := fun j l h => by
    by_cases hj : i = j
    · subst hj
      by_cases hl : i < ds.length
      · rw [List.getElem?_set_self hl] at h
        cases h; cases ho
      · rw [List.getElem?_eq_none (by simpa using hl)] at h; cases h
    · rw [List.getElem?_set_ne hj] at h ⊢
      exact r.own j l h
  dis := fun j k l m a hjk h1 h2 => by
    have nj : i ≠ j := fun e => by
      subst e
      by_cases hl : i < ds.length
      · rw [List.getElem?_set_self hl] at h1; cases h1; cases ho
      · rw [List.getElem?_eq_none (by simpa using hl)] at h1; cases h1
    have nk : i ≠ k := fun e => by
      subst e
      by_cases hl : i < ds.length
      · rw [List.getElem?_set_self hl] at h2; cases h2; cases ho
      · rw [List.getElem?_eq_none (by simpa using hl)] at h2; cases h2
    rw [List.getElem?_set_ne nj] at h1 ⊢
    rw [List.getElem?_set_ne nk] at h2 ⊢
    exact r.dis j k l m a hjk h1 h2
/-- forgetting -/
theorem RpE.forget (r : RpE K w S H0 H σ ds) {ds' : List (Option D)} (hl : ds'.length = ds.length) (h : ∀ (i : Nat) (d : D), ds'[i]? = some (some d) → ds[i]? = some (some d)) : RpE K w S H0 H σ ds' where
  len := by rw [hl]; exact r.len
  get := fun i d e o => r.get i d (h i d e) o
  own := fun i l e => r.own i l (h _ _ e)
  dis := fun i j l m a hij h1 h2 => r.dis i j l m a hij (h _ _ h1) (h _ _ h2)
def dwipe (ds : List (Option D)) : List Nat → List (Option D)
  | [] => ds
  | v :: vs => (dwipe ds vs).set v none
theorem RpE.set0 (r : RpE K w S H0 H σ ds) (i : Nat) : RpE K w S H0 H (σ.set i none) (ds.set i none) := by
  have no : ∀ (j : Nat) (d : D), (ds.set i none)[j]? = some (some d) → i ≠ j ∧ ds[j]? = some (some d) := fun j d h => by
    by_cases hj : i = j
    · subst hj
      by_cases hl : i < ds.length
      · rw [List.getElem?_set_self hl] at h; cases h
      · rw [List.getElem?_eq_none (by simpa using hl)] at h; cases h
    · rw [List.getElem?_set_ne hj] at h
      exact ⟨hj, h⟩
  refine ⟨by simp [r.len], fun j d h o => ?_, fun j l h => ?_, fun j k l m a hjk h1 h2 => ?_⟩
  · obtain ⟨hj, h⟩ := no j d h
    rw [List.getElem?_set_ne hj]; exact r.get j d h o
  · obtain ⟨hj, h⟩ := no j _ h
    rw [List.getElem?_set_ne hj]; exact r.own j l h
  · obtain ⟨hj, h1⟩ := no j _ h1
    obtain ⟨hk, h2⟩ := no k _ h2
    rw [List.getElem?_set_ne hj, List.getElem?_set_ne hk]; exact r.dis j k l m a hjk h1 h2
theorem RpE.wipe (r : RpE K w S H0 H σ ds) : ∀ vs : List Nat, RpE K w S H0 H (L2.wipe σ vs) (dwipe ds vs)
  | [] => r
  | v :: vs => (RpE.wipe r vs).set0 v
theorem wipe_in {σ : St} {i : Nat} : ∀ {vs : List Nat}, i ∈ vs → i < σ.length → (L2.wipe σ vs)[i]? = some none
  | v :: vs, h, hl => by
    unfold L2.wipe
    by_cases e : v = i
    · subst e; rw [List.getElem?_set_self (by rw [wipe_length]; exact hl)]
    · rw [List.getElem?_set_ne e]
      rcases List.mem_cons.mp h with z | z
      · exact absurd z.symm e
      · exact wipe_in z hl
theorem wipe_set {σ : St} {i : Nat} {x : Option V} {vs : List Nat} (h : i ∈ vs) : L2.wipe (σ.set i x) vs = L2.wipe σ vs := by
  apply List.ext_getElem?
  intro j
  by_cases hj : j ∈ vs
  · by_cases hl : j < σ.length
    · rw [wipe_in hj hl, wipe_in hj (by simpa using hl)]
    · rw [List.getElem?_eq_none (by rw [wipe_length]; simpa using hl), List.getElem?_eq_none (by rw [wipe_length]; simpa using hl)]
  · rw [wipe_out hj, wipe_out hj, List.getElem?_set_ne (fun e => hj (by rw [← e]; exact h))]
theorem wipe_wipe {σ : St} {vs : List Nat} : L2.wipe (L2.wipe σ vs) vs = L2.wipe σ vs := by
  apply List.ext_getElem?
  intro j
  by_cases hj : j ∈ vs
  · by_cases hl : j < σ.length
    · rw [wipe_in hj hl, wipe_in hj (by rw [wipe_length]; exact hl)]
    · rw [List.getElem?_eq_none (by rw [wipe_length, wipe_length]; simpa using hl), List.getElem?_eq_none (by rw [wipe_length]; simpa using hl)]
  · rw [wipe_out hj]

/-! ### targets: names, tuples of such -/
/-- the store of d goes from ds to ds', within the slots vs -/
def GD (K : PySem.W.Frag) (w : Option Addr) (g : TG) (d : D) (ds ds' : List (Option D)) (vs : List Nat) : Prop :=
  ∀ (S : Addr → Bool) (H0 : Hp) (σ : St) (H : Hp) (v : V) (Q : St → Hp → Prop), RpE K w S H0 H σ ds → Rp K (cut S H) v d →
    (∀ σ', RpE K w S H0 H σ' ds' → (∀ us, (∀ i ∈ vs, i ∈ us) → L2.wipe σ' us = L2.wipe σ us) → Q σ' H) → g v σ H Q
def GDs (K : PySem.W.Frag) (w : Option Addr) (g : TGs) (es : List D) (ds ds' : List (Option D)) (vs : List Nat) : Prop :=
  ∀ (S : Addr → Bool) (H0 : Hp) (σ : St) (H : Hp) (xs : List V) (Q : St → Hp → Prop), RpE K w S H0 H σ ds → Rps K (cut S H) xs es →
    (∀ σ', RpE K w S H0 H σ' ds' → (∀ us, (∀ i ∈ vs, i ∈ us) → L2.wipe σ' us = L2.wipe σ us) → Q σ' H) → g xs σ H Q
theorem g_name {i : Nat} {d : D} (ho : isOwn d = false := by rfl) : GD K w (gName i) d ds (ds.set i (some d)) [i] := fun S H0 σ H v Q r hv k =>
  k _ (r.set hv ho) fun us h => wipe_set (h i (List.mem_singleton.mpr rfl))
theorem gs_nil : GDs K w gNil [] ds ds [] := fun S H0 σ H xs Q r hv k => by
  cases hv; exact ⟨rfl, k σ r fun _ _ => rfl⟩
theorem gs_cons {t : TG} {u : TGs} {d : D} {es : List D} {ds1 ds2 : List (Option D)} {vs us : List Nat} (h1 : GD K w t d ds ds1 vs) (h2 : GDs K w u es ds1 ds2 us) : GDs K w (gCons t u) (d :: es) ds ds2 (vs ++ us) := fun S H0 σ H xs Q r hv k => by
  cases hv with
  | cons a b => exact ⟨_, _, rfl, h1 S H0 σ H _ _ r a fun σ' r' w' => h2 S H0 σ' H _ _ r' b fun σ2 r2 w2 => k σ2 r2 fun zs hz =>
      (w2 zs fun i hi => hz i (List.mem_append_right _ hi)).trans (w' zs fun i hi => hz i (List.mem_append_left _ hi))⟩
theorem g_tup {u : TGs} {es : List D} {ds1 : List (Option D)} {vs : List Nat} {k : Nat} (h : GDs K w u es ds ds1 vs) (hl : es.length = k) : GD K w (gTup K k u) (.tup es) ds ds1 vs := fun S H0 σ H v Q r hv kk => by
  cases hv with
  | tup hT hx => exact ⟨_, _, rfl, Evl.ex_t (cut_ex S H) hT, by rw [hx.length]; exact hl, h S H0 σ H _ Q r hx kk⟩

/-! ### what is walked -/
def Wk (K : PySem.W.Frag) (Hk : Hp) (J : It) (items : List D) : Prop := ∀ (i : Nat) (H : Hp), Ex Hk H →
  (∀ d, items[i]? = some d → J.go i H ∧ ∀ x H', J.yld i H x H' → Ex H H' ∧ ∀ S : Addr → Bool, Ex Hk (cut S H) → (∀ a, S a = true → ∃ o, H a = some o) → Rp K (cut S H') x d) ∧ (items.length ≤ i → J.stop i H)
def WpI (K : PySem.W.Frag) (w : Option Addr) (wi : TI) (ds : List (Option D)) (n : Nat) (k : List D → Nat → Prop) : Prop :=
  ∀ (S : Addr → Bool) (H0 : Hp) (σ : St) (H : Hp) (R : It → Hp → Prop), RpE K w S H0 H σ ds → OkW K w S H n →
    (∀ (J : It) (H1 : Hp) (items : List D) (n1 : Nat), k items n1 → Pres w H H1 → OkW K w S H1 n1 → Wk K (cut S H1) J items → R J H1) → wi σ H R
theorem wk_list {a : Addr} {xs : List V} {l : List D} {Hk : Hp} (h : Hk a = some (.lst xs)) (r : Rps K Hk xs l) : Wk K Hk (Itl K a) l := fun i H e => by
  have hl := r.length
  have q : SqL K H a xs := SqL.of (e _ _ h)
  refine ⟨fun d hd => ?_, fun hi => ⟨xs, q, by omega⟩⟩
  obtain ⟨v, hv, rv⟩ := r.get hd
  refine ⟨⟨xs, v, q, hv⟩, fun x H' ⟨e1, e2⟩ => ?_⟩
  subst e1
  have := e2 xs q
  rw [hv] at this; cases this
  exact ⟨Evl.Ex.refl _, fun S e _ => rv.mono e⟩
theorem wk_tup {a : Addr} {xs : List V} {l : List D} {Hk : Hp} (h : SqT K Hk a xs) (r : Rps K Hk xs l) : Wk K Hk (Itt K a) l := fun i H e => by
  have hl := r.length
  have q : SqT K H a xs := Evl.ex_t e h
  refine ⟨fun d hd => ?_, fun hi => ⟨xs, q, by omega⟩⟩
  obtain ⟨v, hv, rv⟩ := r.get hd
  refine ⟨⟨xs, v, q, hv⟩, fun x H' ⟨e1, e2⟩ => ?_⟩
  subst e1
  have := e2 xs q
  rw [hv] at this; cases this
  exact ⟨Evl.Ex.refl _, fun S e _ => rv.mono e⟩
def rgD (lo : Int) (k : Nat) : List D := (List.range k).map fun i => D.int (lo + (i : Nat))
theorem rgD_len {lo : Int} {k : Nat} : (rgD lo k).length = k := by unfold rgD; simp
theorem rgD_get {lo : Int} {k i : Nat} {d : D} (h : (rgD lo k)[i]? = some d) : i < k ∧ d = .int (lo + (i : Nat)) := by
  unfold rgD at h
  rw [List.getElem?_map] at h
  by_cases hi : i < k
  · rw [List.getElem?_range hi] at h; cases h; exact ⟨hi, rfl⟩
  · rw [List.getElem?_eq_none (by simpa using hi)] at h; cases h
theorem wk_rng {lo : Int} {k : Nat} {Hk : Hp} : Wk K Hk (Itr lo k) (rgD lo k) := fun i H e => by
  refine ⟨fun d hd => ?_, fun hi => by rw [rgD_len] at hi; exact hi⟩
  obtain ⟨h1, h2⟩ := rgD_get hd
  subst h2
  exact ⟨h1, fun x H' ⟨e1, e2⟩ => by subst e1 e2; exact ⟨Evl.Ex.refl _, fun S e _ => .int _⟩⟩
/-- over a list or a tuple -/
def iSeq (K : PySem.W.Frag) (tl : TE) : TI := fun σ H R => iList K tl σ H R ∨ iTup K tl σ H R
theorem pi_seq {X : Cx} {tg l : Expr} {tl : TE} (hl : PE X l tl) : PI X tg l (iSeq X.K tl) := ⟨fun pins s σ H R I h => by
  rcases h with h | h
  · exact (pi_list hl).run pins s σ H R I h
  · exact (pi_tup hl).run pins s σ H R I h⟩
theorem i_list {tl : TE} {k : List D → Nat → Prop} (h : WpE K w tl ds n fun d n1 => ∃ l, d = .lst l ∧ k l n1) : WpI K w (iSeq K tl) ds n k := fun S H0 σ H R re ok p =>
  .inl (h S H0 σ H _ re ok fun v H1 d n1 ⟨l, e, hk⟩ p1 ok1 r1 => by
    subst e
    cases r1 with
    | lst hL hx => exact ⟨_, rfl, ⟨_, SqL.of (cut_some hL).2⟩, p _ H1 l n1 hk p1 ok1 (wk_list hL hx)⟩)
theorem i_tup {tl : TE} {k : List D → Nat → Prop} (h : WpE K w tl ds n fun d n1 => ∃ l, d = .tup l ∧ k l n1) : WpI K w (iSeq K tl) ds n k := fun S H0 σ H R re ok p =>
  .inr (h S H0 σ H _ re ok fun v H1 d n1 ⟨l, e, hk⟩ p1 ok1 r1 => by
    subst e
    cases r1 with
    | tup hL hx => exact ⟨_, rfl, ⟨_, Evl.ex_t (cut_ex S H1) hL⟩, p _ H1 l n1 hk p1 ok1 (wk_tup hL hx)⟩)
theorem i_rng1 {ta : TA} {k : List D → Nat → Prop} (h : WpA K w ta ds n fun es n1 => ∃ j : Int, es = [.int j] ∧ -(2 ^ 62) ≤ j ∧ j < 2 ^ 62 ∧ k (rgD 0 j.toNat) n1) : WpI K w (iRng1 ta) ds n k := fun S H0 σ H R re ok p =>
  h S H0 σ H _ re ok fun vs H1 es n1 ⟨j, e, h1, h2, hk⟩ p1 ok1 r1 => by
    subst e
    cases r1 with
    | cons a b => cases a; cases b; exact ⟨j, rfl, h1, h2, p _ H1 _ n1 hk p1 ok1 wk_rng⟩
theorem i_rng2 {ta : TA} {k : List D → Nat → Prop} (h : WpA K w ta ds n fun es n1 => ∃ i j : Int, es = [.int i, .int j] ∧ (-(2 ^ 62) ≤ i ∧ i < 2 ^ 62 ∧ -(2 ^ 62) ≤ j ∧ j < 2 ^ 62) ∧ k (rgD i (j - i).toNat) n1) : WpI K w (iRng2 ta) ds n k := fun S H0 σ H R re ok p =>
  h S H0 σ H _ re ok fun vs H1 es n1 ⟨i, j, e, h1, hk⟩ p1 ok1 r1 => by
    subst e
    cases r1 with
    | cons a b =>
      cases a
      cases b with
      | cons a b => cases a; cases b; exact ⟨i, j, rfl, h1, p _ H1 _ n1 hk p1 ok1 wk_rng⟩
theorem wk_zip {a b : Addr} {xs ys : List V} {l m : List D} {Hk : Hp} (ha : Hk a = some (.lst xs)) (hb : Hk b = some (.lst ys)) (r : Rps K Hk xs l) (q : Rps K Hk ys m) :
    Wk K Hk (Itz K a b) ((l.zip m).map fun p => D.tup [p.1, p.2]) := fun i H e => by
  have hl := r.length
  have hm := q.length
  have qa : SqL K H a xs := SqL.of (e _ _ ha)
  have qb : SqL K H b ys := SqL.of (e _ _ hb)
  refine ⟨fun d hd => ?_, fun hi => ⟨xs, ys, qa, qb, by simp at hi; omega⟩⟩
  rw [List.getElem?_map] at hd
  obtain ⟨⟨d1, d2⟩, h1, h2⟩ := Option.map_eq_some_iff.mp hd
  subst h2
  obtain ⟨h3, h4⟩ := List.getElem?_zip_eq_some.mp h1
  obtain ⟨v, hv, rv⟩ := r.get h3
  obtain ⟨u, hu, ru⟩ := q.get h4
  refine ⟨⟨xs, ys, v, u, qa, qb, hv, hu⟩, fun x H' ⟨T, x', y', e1, e2, e3, e4, e5⟩ => ?_⟩
  have z1 := e4 xs qa
  rw [hv] at z1; cases z1
  have z2 := e5 ys qb
  rw [hu] at z2; cases z2
  subst e1 e3
  refine ⟨Evl.Ex.new e2, fun S e hS => ?_⟩
  have hT : S T = false := by
    cases z : S T with
    | false => rfl
    | true => obtain ⟨o, ho⟩ := hS T z; rw [e2] at ho; cases ho
  have e' : Ex Hk (cut S (upd H T (.tup [v, u]))) := fun b o hb' => by
    obtain ⟨g1, g2⟩ := cut_some (e b o hb')
    exact cut_mk g1 (by rw [upd_ne (ne_of_none g2 e2)]; exact g2) (cut_nt (e b o hb'))
  exact .tup (SqT.of (cut_mk hT upd_same)) (.cons (rv.mono e') (.cons (ru.mono e') .nil))
theorem i_zip {ta : TA} {k : List D → Nat → Prop} (h : WpA K w ta ds n fun es n1 => ∃ l m, es = [.lst l, .lst m] ∧ k ((l.zip m).map fun p => D.tup [p.1, p.2]) n1) : WpI K w (iZip K ta) ds n k := fun S H0 σ H R re ok p =>
  h S H0 σ H _ re ok fun vs H1 es n1 ⟨l, m, e, hk⟩ p1 ok1 r1 => by
    subst e
    cases r1 with
    | cons a b =>
      cases a with
      | lst hL hx =>
        cases b with
        | cons a b =>
          cases b
          cases a with
          | lst hM hy => exact ⟨_, _, _, _, rfl, SqL.of (cut_some hL).2, SqL.of (cut_some hM).2, p _ H1 _ n1 hk p1 ok1 (wk_zip hL hM hx hy)⟩

/-! ### new lists that may be changed later -/
def WpF (K : PySem.W.Frag) (w : Option Addr) (te : TE) (ds : List (Option D)) (n : Nat) (k : List D → Nat → Prop) : Prop :=
  ∀ (S : Addr → Bool) (H0 : Hp) (σ : St) (H : Hp) (Q : VK), RpE K w S H0 H σ ds → OkW K w S H n →
    (∀ (a : Addr) (H' : Hp) (xs : List V) (l : List D) (n' : Nat), k l n' → H a = none → Pres w H H' → OkW K w (addS S a) H' n' → H' a = some (.lst xs) → Rps K (cut (addS S a) H') xs l → Q (.ref a) H') → te σ H Q
theorem WpF.toE {te : TE} {k : Kn} (h : WpF K w te ds n fun l n1 => k (.lst l) n1) : WpE K w te ds n k := fun S H0 σ H Q re ok p =>
  h S H0 σ H Q re ok fun a H' xs l n' hk ha pr ok' hl hx => by
    have hsub : ∀ b, S b = true → addS S a b = true := fun b hb => addS_of hb
    have okS : OkW K w S H' n' := ok'.less hsub (fun q hq => (ok.1 q hq).1) (fun q hq => (ok.3 q hq).1)
    exact p _ _ _ n' hk pr okS (.lst (cut_mk (ok.fresh ha) hl) (hx.mono (cut_sub hsub)))
theorem f_lst {tA : TA} {k : List D → Nat → Prop} (h : WpA K w tA ds n fun es n1 => es.length ≤ 100000 ∧ k es n1) : WpF K w (tLst tA) ds n k := fun S H0 σ H Q re ok p =>
  h S H0 σ H _ re ok fun vs H1 es n1 h1 p1 ok1 r1 => ⟨Evl.sz_of (by rw [r1.length]; exact h1.1), fun q hq => by
    have hq0 : H q = none := p1.back _ hq
    exact p q _ vs es n1 h1.2 hq0 (p1.trans (Pres.new hq)) (ok1.addS hq) upd_same (r1.mono (cut_addS hq))⟩
theorem f_lc {wi : TI} {g : TG} {tt : TT} {te : TE} {vs : List Nat} {k : List D → Nat → Prop}
    (h : WpI K w wi ds n fun items n1 => items.length ≤ 100000 ∧ ∃ I : Nat → List D → Nat → Prop, I 0 [] n1 ∧
      (∀ i x acc n', items[i]? = some x → I i acc n' → ∃ ds', GD K w g x (dwipe ds vs) ds' vs ∧ WpT K w tt ds' n' fun b n2 => (b = true → WpE K w te ds' n2 fun d n3 => I (i + 1) (acc ++ [d]) n3) ∧ (b = false → I (i + 1) acc n2)) ∧
      ∀ acc n', I items.length acc n' → k acc n') : WpF K w (tLc wi g tt te vs) ds n k := fun S H0 σ H Q re ok p =>
  h S H0 σ H _ re ok fun J H1 items n1 ⟨hz, I, hI0, hs, hd⟩ p1 ok1 hwk => fun Dl hD => by
    have hq0 : H Dl = none := p1.back _ hD
    have hwD : Free w Dl := ok1.w_ne (ok1.fresh hD)
    have re1 : RpE K w S H0 H1 σ ds := re.up ok p1
    -- the block's frame over any later heap
    have reU : ∀ (H3 : Hp), (∀ a o, a ≠ Dl → Free w a → H1 a = some o → noT o = true → H3 a = some o) → RpE K w (addS S Dl) H0 H3 (L2.wipe σ vs) (dwipe ds vs) := fun H3 hp => by
      have ex : Ex (cut S H1) (cut (addS S Dl) H3) := fun a o e => by
        obtain ⟨g1, g2⟩ := cut_some e
        have ne : a ≠ Dl := ne_of_none g2 hD
        exact cut_mk (by unfold addS; simp [g1, ne]) (hp a o ne (ok1.w_ne g1) g2 (cut_nt e)) (cut_nt e)
      refine RpE.wipe ⟨re1.len, fun i d e o => ?_, fun i l e => ?_, re1.dis⟩ vs
      · obtain ⟨v, h1, h2⟩ := re1.get i d e o
        exact ⟨v, h1, h2.mono ex⟩
      · obtain ⟨a, xs, h1, h2, h3, h0, h4, h5⟩ := re1.own i l e
        exact ⟨a, xs, h1, addS_of h2, h3, h0, hp a _ (ne_of_none h4 hD) h3 h4 rfl, h5.mono ex⟩
    let W : Nat → Hp → Prop := fun i H3 => ∃ acc n' ys, I i acc n' ∧ acc.length ≤ i ∧ (∀ a, H3 a = none → H1 a = none) ∧ (∀ a o, a ≠ Dl → Free w a → H1 a = some o → noT o = true → H3 a = some o) ∧ OkW K w (addS S Dl) H3 n' ∧ H3 Dl = some (.lst ys) ∧ Rps K (cut (addS S Dl) H3) ys acc
    refine ⟨fun i m H3 => m = items.length - i ∧ i ≤ items.length ∧ W i H3, ⟨items.length, by simp, Nat.zero_le _, [], n1, [], hI0, Nat.le_refl _, fun a e => NdefX.upd_none e, fun a o ne _ e _ => by rw [upd_ne ne]; exact e, ok1.addS hD, upd_same, .nil⟩, ?_⟩
    rintro i m H3 ⟨rfl, hi, acc, n', ys, hI, hal, hbk, hp, ok3, hl3, hy⟩
    have exk : Ex (cut S H1) (cut (addS S Dl) H3) := fun a o e => by
      obtain ⟨g1, g2⟩ := cut_some e
      have ne : a ≠ Dl := ne_of_none g2 hD
      exact cut_mk (by unfold addS; simp [g1, ne]) (hp a o ne (ok1.w_ne g1) g2 (cut_nt e)) (cut_nt e)
    have exk' : Ex (cut S H1) H3 := exk.trans (cut_ex _ _)
    obtain ⟨wgo, wst⟩ := hwk i H3 exk'
    by_cases hlt : i < items.length
    · refine .inr ?_
      obtain ⟨go, yl⟩ := wgo items[i] (by simp [hlt])
      refine ⟨go, W (i + 1), fun H' p' => ⟨items.length - (i + 1), by omega, rfl, hlt, p'⟩, fun x H4 hx => ?_⟩
      obtain ⟨e4, rx⟩ := yl x H4 hx
      have rx' := rx (addS S Dl) exk ok3.2
      have hp4 : ∀ a o, a ≠ Dl → Free w a → H1 a = some o → noT o = true → H4 a = some o := fun a o ne hw e t => e4 a o (hp a o ne hw e t)
      have ok4 : OkW K w (addS S Dl) H4 n' := ok3.ex e4
      obtain ⟨ds', hg, ht⟩ := hs i items[i] acc n' (by simp [hlt]) hI
      refine hg (addS S Dl) H0 _ H4 x _ (reU H4 hp4) rx' fun σ' r' hw' => ?_
      refine ⟨by rw [hw' vs fun i hi => hi, wipe_wipe], ?_⟩
      refine ht (addS S Dl) H0 σ' H4 _ r' ok4 fun b H5 n5 ⟨hb1, hb2⟩ p5 ok5 => ?_
      have hp5 : ∀ a o, a ≠ Dl → Free w a → H1 a = some o → noT o = true → H5 a = some o := fun a o ne hw e t => p5.go a o hw (hp4 a o ne hw e t) t
      have e45 : Ex (cut (addS S Dl) H3) (cut (addS S Dl) H5) := (ex_cut ok3 (Pres.of e4)).trans (ex_cut ok4 p5)
      have hl5 : H5 Dl = some (.lst ys) := p5.go _ _ hwD (e4 _ _ hl3) rfl
      cases b with
      | false =>
        show W (i + 1) H5
        exact ⟨acc, n5, ys, hb2 rfl, by omega, fun a z => hbk a ((Pres.of (w := w) e4).back a (p5.back a z)), hp5, ok5, hl5, hy.mono e45⟩
      | true =>
        refine hb1 rfl (addS S Dl) H0 σ' H5 _ (r'.up ok4 p5) ok5 fun y H6 d n6 hk p6 ok6 r6 => ?_
        have hl6 : H6 Dl = some (.lst ys) := p6.go _ _ hwD hl5 rfl
        have hyl := hy.length
        refine ⟨ys, hl6, Evl.sz_lt (by omega), acc ++ [d], n6, ys ++ [y], hk, by simp; omega, fun a z => hbk a ((Pres.of (w := w) e4).back a (p5.back a (p6.back a (NdefX.upd_none z)))), fun a o ne hw e t => by rw [upd_ne ne]; exact p6.go a o hw (hp5 a o ne hw e t) t, ok6.mut addS_same hwD (.lst hl6), upd_same, ?_⟩
        rw [cut_upd addS_same]
        exact (hy.mono (e45.trans (ex_cut ok5 p6))).append (.cons r6 .nil)
    · have e : i = items.length := by omega
      subst e
      refine .inl ⟨wst (Nat.le_refl _), ?_⟩
      refine p Dl H3 ys acc n' (hd acc n' hI) hq0 ⟨fun a o hw e t => ?_, fun a z => p1.back a (hbk a z)⟩ ok3 hl3 hy
      have ne : a ≠ Dl := ne_of_none e hq0
      exact hp a o ne hw (p1.go a o hw e t) t
end
end DW
set_option Elab.async false
set_option maxRecDepth 100000
set_option maxHeartbeats 4000000
set_option linter.all false
set_option autoImplicit false
namespace DW
variable [Tb]
open PySem L2

/-! ### statements -/
abbrev Kd := List (Option D) → Nat → Prop
structure KS where
  nx : Kd
  rt : Kn
  bk : Kd := fun _ _ => False
  ct : Kd := fun _ _ => False
structure Base (w : Option Addr) (K : PySem.W.Frag) (S0 : Addr → Bool) (H0 : Hp) (S : Addr → Bool) (H : Hp) (n : Nat) : Prop where
  pres : Pres w H0 H
  ok : OkW K w S H n
  sub : ∀ a, S0 a = true → S a = true
  new : ∀ a, S a = true → S0 a = true ∨ H0 a = none
  pen : ∀ p, w = some p → S0 p = true
  old : ∀ a, S0 a = true → ∃ o, H0 a = some o
  tab : ∀ a, Tb.tab a = true → S0 a = true
def EndOk (w : Option Addr) (K : PySem.W.Frag) (S0 : Addr → Bool) (H0 : Hp) (S : Addr → Bool) (H : Hp) (q : St → Hp → Prop) (k : Kd) : Prop :=
  ∀ (S' : Addr → Bool) (σ' : St) (H' : Hp) (ds' : List (Option D)) (n' : Nat), k ds' n' → Base w K S0 H0 S' H' n' → RpE K w S' H0 H' σ' ds' → Ex (cut S H) (cut S' H') → q σ' H'
def RtOk (w : Option Addr) (K : PySem.W.Frag) (S0 : Addr → Bool) (H0 : Hp) (q : VK) (k : Kn) : Prop :=
  ∀ (v : V) (H' : Hp) (d : D) (n' : Nat), k d n' → Pres w H0 H' → OkW K w S0 H' n' → Rp K (cut S0 H') v d → q v H'
structure Ends4 (w : Option Addr) (K : PySem.W.Frag) (S0 : Addr → Bool) (H0 : Hp) (S : Addr → Bool) (H : Hp) (E : Ends) (k : KS) : Prop where
  nx : EndOk w K S0 H0 S H E.nx k.nx
  rt : RtOk w K S0 H0 E.rt k.rt
  bk : EndOk w K S0 H0 S H E.bk k.bk
  ct : EndOk w K S0 H0 S H E.ct k.ct
def WpS (K : PySem.W.Frag) (w : Option Addr) (t : TS) (ds : List (Option D)) (n : Nat) (k : KS) : Prop :=
  ∀ (S0 : Addr → Bool) (H0 : Hp) (S : Addr → Bool) (σ : St) (H : Hp) (E : Ends), Base w K S0 H0 S H n → RpE K w S H0 H σ ds → Ends4 w K S0 H0 S H E k → t E σ H

section
variable {K : PySem.W.Frag} {w : Option Addr} {S S0 S1 : Addr → Bool} {H H0 H1 H2 H' : Hp} {n m : Nat} {σ : St} {ds : List (Option D)} {ta tb te : TE} {t u : TS} {c : TT} {tA : TA} {k : KS} {E : Ends}
theorem Base.up (b : Base w K S0 H0 S H n) (p : Pres w H H1) (ok : OkW K w S H1 m) : Base w K S0 H0 S H1 m := ⟨b.pres.trans p, ok, b.sub, b.new, b.pen, b.old, b.tab⟩
theorem EndOk.from {q : St → Hp → Prop} {kd : Kd} (h : EndOk w K S0 H0 S H q kd) (e : Ex (cut S H) (cut S1 H1)) : EndOk w K S0 H0 S1 H1 q kd := fun S' σ' H' ds' n' hk b r e' => h S' σ' H' ds' n' hk b r (e.trans e')
theorem Ends4.from (h : Ends4 w K S0 H0 S H E k) (e : Ex (cut S H) (cut S1 H1)) : Ends4 w K S0 H0 S1 H1 E k := ⟨h.nx.from e, h.rt, h.bk.from e, h.ct.from e⟩
theorem WpS.imp {k' : KS} (h : WpS K w t ds n k) (h1 : ∀ ds n, k.nx ds n → k'.nx ds n) (h2 : ∀ d n, k.rt d n → k'.rt d n) (h3 : ∀ ds n, k.bk ds n → k'.bk ds n) (h4 : ∀ ds n, k.ct ds n → k'.ct ds n) : WpS K w t ds n k' :=
  fun S0 H0 S σ H E b r e => h S0 H0 S σ H E b r ⟨fun S' σ' H' ds' n' hk => e.nx S' σ' H' ds' n' (h1 _ _ hk), fun v H' d n' hk => e.rt v H' d n' (h2 _ _ hk), fun S' σ' H' ds' n' hk => e.bk S' σ' H' ds' n' (h3 _ _ hk), fun S' σ' H' ds' n' hk => e.ct S' σ' H' ds' n' (h4 _ _ hk)⟩
theorem s_seq (h : WpS K w t ds n { k with nx := fun ds' n' => WpS K w u ds' n' k }) : WpS K w (tSeq t u) ds n k := fun S0 H0 S σ H E b r e =>
  h S0 H0 S σ H _ b r ⟨fun S' σ' H' ds' n' hk b' r' e' => hk S0 H0 S' σ' H' E b' r' (e.from e'), e.rt, e.bk, e.ct⟩
theorem s_next (h : k.nx ds n) : WpS K w tNext ds n k := fun S0 H0 S σ H E b r e => e.nx S σ H ds n h b r (Evl.Ex.refl _)
theorem s_brk (h : k.bk ds n) : WpS K w tBreak ds n k := fun S0 H0 S σ H E b r e => e.bk S σ H ds n h b r (Evl.Ex.refl _)
theorem s_cont (h : k.ct ds n) : WpS K w tCont ds n k := fun S0 H0 S σ H E b r e => e.ct S σ H ds n h b r (Evl.Ex.refl _)
theorem s_never (h : False) : WpS K w tNever ds n k := h.elim
theorem s_if (h : WpT K w c ds n fun b n1 => (b = true → WpS K w t ds n1 k) ∧ (b = false → WpS K w u ds n1 k)) : WpS K w (tIfS c t u) ds n k := fun S0 H0 S σ H E b r e =>
  h S H0 σ H _ r b.ok fun x H1 n1 ⟨h1, h2⟩ p1 ok1 => by
    have e1 := ex_cut b.ok p1
    cases x with
    | true => exact h1 rfl S0 H0 S σ H1 E (b.up p1 ok1) (r.up b.ok p1) (e.from e1)
    | false => exact h2 rfl S0 H0 S σ H1 E (b.up p1 ok1) (r.up b.ok p1) (e.from e1)
/-- target = value -/
theorem s_asg {g : TG} (h : WpE K w te ds n fun d n1 => ∃ ds' vs, GD K w g d ds ds' vs ∧ k.nx ds' n1) : WpS K w (tAsg te g) ds n k := fun S0 H0 S σ H E b r e =>
  h S H0 σ H _ r b.ok fun v H1 d n1 ⟨ds', vs, hg, hk⟩ p1 ok1 r1 => hg S H0 σ H1 v _ (r.up b.ok p1) r1 fun σ' r' _ =>
    e.nx S σ' H1 ds' n1 hk (b.up p1 ok1) r' (ex_cut b.ok p1)
/-- name = value -/
theorem s_set {i : Nat} (h : WpE K w te ds n fun d n1 => isOwn d = false ∧ k.nx (ds.set i (some d)) n1) : WpS K w (tAsg te (gName i)) ds n k :=
  s_asg (h.imp fun d n1 ⟨h1, h2⟩ => ⟨_, _, g_name h1, h2⟩)
/-- the new list at a is put into the slot i -/
theorem own_put {i n1 : Nat} {a : Addr} {xs : List V} {l : List D} (b : Base w K S0 H0 S H n) (r : RpE K w S H0 H σ ds) (e : Ends4 w K S0 H0 S H E k) (hk : k.nx (ds.set i (some (.own l))) n1) (ha : H a = none) (p1 : Pres w H H1) (ok1 : OkW K w (addS S a) H1 n1) (hl : H1 a = some (.lst xs)) (hx : Rps K (cut (addS S a) H1) xs l) :
    E.nx (σ.set i (some (.ref a))) H1 := by
  have ex1 : Ex (cut S H) (cut (addS S a) H1) := fun c o z => by
    obtain ⟨g1, g2⟩ := cut_some z
    have ne : c ≠ a := ne_of_none g2 ha
    exact cut_mk (by unfold addS; simp [g1, ne]) (p1.go c o (b.ok.w_ne g1) g2 (cut_nt z)) (cut_nt z)
  have hw : Free w a := b.ok.w_ne (b.ok.fresh ha)
  have h0 : H0 a = none := b.pres.back a ha
  have notr : ∀ (j : Nat), ds[j]? ≠ none → True := fun _ _ => trivial
  have ro : ∀ (j : Nat) (m : List D), ds[j]? = some (some (.own m)) → σ[j]? ≠ some (some (.ref a)) := fun j m hj q => by
    obtain ⟨c, ys, g1, _, _, _, g4, _⟩ := r.own j m hj
    rw [g1] at q; cases q
    rw [ha] at g4; cases g4
  refine e.nx (addS S a) _ H1 _ n1 hk ⟨b.pres.trans p1, ok1, fun c hc => addS_of (b.sub c hc), fun c hc => ?_, b.pen, b.old, b.tab⟩ ?_ ex1
  · rcases addS_or hc with z | z
    · exact b.new c z
    · subst z; exact .inr h0
  · refine ⟨by simp [r.len], fun j d hj o => ?_, fun j m hj => ?_, fun j q l1 l2 c hjq h1 h2 h3 => ?_⟩
    · by_cases hij : i = j
      · subst hij
        by_cases hlt : i < ds.length
        · rw [List.getElem?_set_self hlt] at hj; cases hj; cases o
        · rw [List.getElem?_eq_none (by simpa using hlt)] at hj; cases hj
      · rw [List.getElem?_set_ne hij] at hj ⊢
        obtain ⟨v, g1, g2⟩ := r.get j d hj o
        exact ⟨v, g1, g2.mono ex1⟩
    · by_cases hij : i = j
      · subst hij
        by_cases hlt : i < ds.length
        · rw [List.getElem?_set_self hlt] at hj; cases hj
          exact ⟨a, xs, by rw [List.getElem?_set_self (by rw [r.len]; exact hlt)], addS_same, hw, h0, hl, hx⟩
        · rw [List.getElem?_eq_none (by simpa using hlt)] at hj; cases hj
      · rw [List.getElem?_set_ne hij] at hj ⊢
        obtain ⟨c, ys, g1, g2, g3, g0, g4, g5⟩ := r.own j m hj
        exact ⟨c, ys, g1, addS_of g2, g3, g0, p1.go c _ g3 g4 rfl, g5.mono ex1⟩
    · by_cases hij : i = j
      · subst hij
        have hiq : i ≠ q := hjq
        rw [List.getElem?_set_ne hiq] at h2 ⊢
        by_cases hlt : i < ds.length
        · rw [List.getElem?_set_self (by rw [r.len]; exact hlt)] at h3
          cases h3
          exact ro q l2 h2
        · rw [List.getElem?_eq_none (by simpa using hlt)] at h1; cases h1
      · rw [List.getElem?_set_ne hij] at h1 h3
        by_cases hiq : i = q
        · subst hiq
          by_cases hlt : i < σ.length
          · rw [List.getElem?_set_self hlt]
            intro z
            cases z
            exact ro j l1 h1 h3
          · rw [List.getElem?_eq_none (by simpa using hlt)]
            intro z; cases z
        · rw [List.getElem?_set_ne hiq] at h2 ⊢
          exact r.dis j q l1 l2 c hjq h1 h2 h3
/-- name = a new list, that may be changed -/
theorem s_own {i : Nat} (h : WpF K w te ds n fun l n1 => k.nx (ds.set i (some (.own l))) n1) : WpS K w (tAsg te (gName i)) ds n k := fun S0 H0 S σ H E b r e =>
  h S H0 σ H _ r b.ok fun a H1 xs l n1 hk ha p1 ok1 hl hx => own_put b r e hk ha p1 ok1 hl hx
theorem s_ret (h : WpE K w te ds n k.rt) : WpS K w (tRet te) ds n k := fun S0 H0 S σ H E b r e =>
  h S H0 σ H _ r b.ok fun v H1 d n1 hk p1 ok1 r1 => e.rt v H1 d n1 hk (b.pres.trans p1) (ok1.less b.sub b.pen b.tab) (r1.mono (cut_sub b.sub))
theorem s_retN (h : k.rt .non n) : WpS K w tRetN ds n k := fun S0 H0 S σ H E b r e => e.rt .non H .non n h b.pres (b.ok.less b.sub b.pen b.tab) .non
/-- return of a list of one's own -/
theorem s_retOwn {i : Nat} {l : List D} (hi : ds[i]? = some (some (.own l))) (h : k.rt (.lst l) n) : WpS K w (tRet (tVar i)) ds n k := fun S0 H0 S σ H E b r e => by
  obtain ⟨a, xs, h1, h2, h3, h4, h5, h6⟩ := r.own i l hi
  refine ⟨.ref a, h1, e.rt _ H _ n h b.pres (b.ok.less b.sub b.pen b.tab) (.lst ?_ (h6.mono (cut_sub b.sub)))⟩
  have z : S0 a = false := by
    cases q : S0 a with
    | false => rfl
    | true =>
      obtain ⟨o, z⟩ := b.old a q
      rw [h4] at z; cases z
  exact cut_mk z h5
theorem s_drop (h : WpE K w te ds n fun _ n1 => k.nx ds n1) : WpS K w (tDrop te) ds n k := fun S0 H0 S σ H E b r e =>
  h S H0 σ H _ r b.ok fun v H1 d n1 hk p1 ok1 r1 => e.nx S σ H1 ds n1 hk (b.up p1 ok1) (r.up b.ok p1) (ex_cut b.ok p1)
/-- a, b = x, y -/
theorem s_par {i j : Nat} (h : WpA K w tA ds n fun es n1 => ∃ d e, es = [d, e] ∧ isOwn d = false ∧ isOwn e = false ∧ k.nx ((ds.set i (some d)).set j (some e)) n1) : WpS K w (tPar i j tA) ds n k := fun S0 H0 S σ H E b r e =>
  h S H0 σ H _ r b.ok fun vs H1 es n1 ⟨d, d', ee, o1, o2, hk⟩ p1 ok1 r1 => by
    subst ee
    cases r1 with
    | cons a b' =>
      cases b' with
      | cons a' b' =>
        cases b'
        exact ⟨_, _, rfl, e.nx S _ H1 _ n1 hk (b.up p1 ok1) (((r.up b.ok p1).set a o1).set a' o2) (ex_cut b.ok p1)⟩
/-! a list of one's own, changed -/
theorem RpE.mutOwn (r : RpE K w S H0 H σ ds) {i : Nat} {l l' : List D} {a : Addr} {xs' : List V} (hi : ds[i]? = some (some (.own l))) (ha : σ[i]? = some (some (.ref a))) (hx : Rps K (cut S H) xs' l') :
    RpE K w S H0 (upd H a (.lst xs')) σ (ds.set i (some (.own l'))) := by
  obtain ⟨a', xs, h1, h2, h3, h4, h5, h6⟩ := r.own i l hi
  rw [ha] at h1; cases h1
  have hlt : i < ds.length := by
    rcases Nat.lt_or_ge i ds.length with z | z
    · exact z
    · rw [List.getElem?_eq_none z] at hi; cases hi
  refine ⟨by simp [r.len], fun j d hj o => ?_, fun j m hj => ?_, fun j q l1 l2 c hjq g1 g2 g3 => ?_⟩
  · by_cases hij : i = j
    · subst hij; rw [List.getElem?_set_self hlt] at hj; cases hj; cases o
    · rw [List.getElem?_set_ne hij] at hj
      rw [cut_upd h2]
      exact r.get j d hj o
  · rw [cut_upd h2]
    by_cases hij : i = j
    · subst hij; rw [List.getElem?_set_self hlt] at hj; cases hj
      exact ⟨a, xs', ha, h2, h3, h4, upd_same, hx⟩
    · rw [List.getElem?_set_ne hij] at hj
      obtain ⟨c, ys, g1, g2, g3, g4, g5, g6⟩ := r.own j m hj
      refine ⟨c, ys, g1, g2, g3, g4, ?_, g6⟩
      rw [upd_ne]; · exact g5
      intro z
      subst z
      exact r.dis i j l m c hij hi hj ha g1
  · have back : ∀ (j : Nat) (m : List D), (ds.set i (some (.own l')))[j]? = some (some (.own m)) → ∃ m', ds[j]? = some (some (.own m')) := fun j m z => by
      by_cases hij : i = j
      · subst hij; exact ⟨l, hi⟩
      · rw [List.getElem?_set_ne hij] at z; exact ⟨m, z⟩
    obtain ⟨m1, z1⟩ := back j l1 g1
    obtain ⟨m2, z2⟩ := back q l2 g2
    exact r.dis j q m1 m2 c hjq z1 z2 g3
theorem Base.mut (b : Base w K S0 H0 S H n) {a : Addr} {o : HO} (h2 : S a = true) (h3 : Free w a) (h4 : H0 a = none) (nc : NotCode H a) (ho : plainO o = true := by rfl) : Base w K S0 H0 S (upd H a o) n :=
  ⟨⟨fun c u hc e t => by rw [upd_ne (ne_of_none e h4)]; exact b.pres.go c u hc e t, fun c e => b.pres.back c (NdefX.upd_none e)⟩, b.ok.mut h2 h3 nc ho, b.sub, b.new, b.pen, b.old, b.tab⟩
/-- xs.append(e) -/
theorem s_app {i : Nat} {l : List D} (hi : ds[i]? = some (some (.own l))) (h : WpE K w te ds n fun d n1 => l.length < 100000 ∧ k.nx (ds.set i (some (.own (l ++ [d])))) n1) :
    WpS K w (tDrop (tBM K "list" rAppend (tVar i) (tCons te tNil))) ds n k := fun S0 H0 S σ H E b r e => by
  obtain ⟨a, xs, h1, h2, h3, h4, h5, h6⟩ := r.own i l hi
  refine ⟨.ref a, h1, Or.inl ⟨rfl, xs, Evl.sq_of h5⟩, ?_⟩
  refine h S H0 σ H _ r b.ok fun v H1 d n1 ⟨hz, hk⟩ p1 ok1 r1 => ?_
  have g5 : H1 a = some (.lst xs) := p1.go a _ h3 h5 rfl
  have hl := h6.length
  have ex1 := ex_cut b.ok p1
  refine ⟨a, xs, v, rfl, rfl, g5, Evl.sz_lt (by omega), ?_⟩
  have r' := (r.up b.ok p1).mutOwn (xs' := xs ++ [v]) (l' := l ++ [d]) hi h1 ((h6.mono ex1).append (.cons r1 .nil))
  refine e.nx S σ _ _ n1 hk ((b.up p1 ok1).mut h2 h3 h4 (.lst g5)) r' ?_
  rw [cut_upd h2]; exact ex1
/-- xs[j] = e -/
theorem s_setL {i : Nat} {l : List D} {ti : TE} (hi : ds[i]? = some (some (.own l))) (h : WpE K w te ds n fun d n1 => WpE K w ti ds n1 fun x n2 => ∃ (z : Int) (j : Nat), x = .int z ∧ ixN l.length z = some j ∧ k.nx (ds.set i (some (.own (l.set j d)))) n2) :
    WpS K w (tAsg te (gSub (tVar i) ti rSetL)) ds n k := fun S0 H0 S σ H E b r e => by
  refine h S H0 σ H _ r b.ok fun v H1 d n1 h1 p1 ok1 r1 => ?_
  obtain ⟨a, xs, g1, g2, g3, g4, g5, g6⟩ := r.own i l hi
  refine ⟨.ref a, g1, ?_⟩
  refine h1 S H0 σ H1 _ (r.up b.ok p1) ok1 fun x H2 y n2 ⟨z, j, ey, hj, hk⟩ p2 ok2 r2 => ?_
  subst ey
  cases r2
  have q5 : H2 a = some (.lst xs) := p2.go a _ g3 (p1.go a _ g3 g5 rfl) rfl
  have hl := g6.length
  have ex2 := (ex_cut b.ok p1).trans (ex_cut ok1 p2)
  refine ⟨a, xs, z, j, rfl, rfl, q5, by rw [hl]; exact hj, ?_⟩
  have r' := ((r.up b.ok p1).up ok1 p2).mutOwn (xs' := xs.set j v) (l' := l.set j d) hi g1 ((g6.mono ex2).set (r1.mono (ex_cut ok1 p2)) j)
  refine e.nx S σ _ _ n2 hk (((b.up p1 ok1).up p2 ok2).mut g2 g3 g4 (.lst q5)) r' ?_
  rw [cut_upd g2]; exact ex2
/-- a loop over what is walked -/
theorem s_for {wi : TI} {g : TG} {tb : TS} (h : WpI K w wi ds n fun items n1 => ∃ I : Nat → List (Option D) → Nat → Prop, I 0 ds n1 ∧
      (∀ i x ds1 n', items[i]? = some x → I i ds1 n' → ∃ ds2 vs, GD K w g x ds1 ds2 vs ∧ WpS K w tb ds2 n' { nx := I (i + 1), rt := k.rt, bk := k.nx, ct := I (i + 1) }) ∧
      ∀ ds1 n', I items.length ds1 n' → k.nx ds1 n') : WpS K w (tFor wi g tb) ds n k := fun S0 H0 S σ H E b r e =>
  h S H0 σ H _ r b.ok fun J H1 items n1 ⟨I, hI0, hs, hd⟩ p1 ok1 hwk => by
    have e1 := ex_cut b.ok p1
    let W : Nat → St → Hp → Prop := fun i σ' H' => ∃ S' ds' n', I i ds' n' ∧ Base w K S0 H0 S' H' n' ∧ RpE K w S' H0 H' σ' ds' ∧ Ex (cut S H1) (cut S' H')
    refine ⟨fun i m σ' H' => m = items.length - i ∧ i ≤ items.length ∧ W i σ' H', ⟨items.length, by simp, Nat.zero_le _, S, ds, n1, hI0, b.up p1 ok1, r.up b.ok p1, Evl.Ex.refl _⟩, ?_⟩
    rintro i m σ' H' ⟨rfl, hi, S', ds', n', hI, b', r', ex'⟩
    obtain ⟨wgo, wst⟩ := hwk i H' (ex'.trans (cut_ex _ _))
    by_cases hlt : i < items.length
    · refine .inr ?_
      obtain ⟨go, yl⟩ := wgo items[i] (by simp [hlt])
      refine ⟨go, W (i + 1), fun σ2 H2 p' => ⟨items.length - (i + 1), by omega, rfl, hlt, p'⟩, fun x H4 hx => ?_⟩
      obtain ⟨e4, rx⟩ := yl x H4 hx
      have rx' := rx S' ex' b'.ok.2
      obtain ⟨ds2, vs, hg, hb⟩ := hs i items[i] ds' n' (by simp [hlt]) hI
      have p4 : Pres w H' H4 := Pres.of e4
      have b4 : Base w K S0 H0 S' H4 n' := b'.up p4 (b'.ok.ex e4)
      have ex4 := ex_cut b'.ok p4
      refine hg S' H0 σ' H4 x _ (r'.up b'.ok p4) rx' fun σ2 r2 _ => ?_
      refine hb S0 H0 S' σ2 H4 _ b4 r2 ⟨fun S5 σ5 H5 ds5 n5 hk b5 r5 e5 => ⟨S5, ds5, n5, hk, b5, r5, (ex'.trans ex4).trans e5⟩, e.rt, fun S5 σ5 H5 ds5 n5 hk b5 r5 e5 => ?_, fun S5 σ5 H5 ds5 n5 hk b5 r5 e5 => ⟨S5, ds5, n5, hk, b5, r5, (ex'.trans ex4).trans e5⟩⟩
      exact e.nx S5 σ5 H5 ds5 n5 hk b5 r5 (((e1.trans ex').trans ex4).trans e5)
    · have ee : i = items.length := by omega
      subst ee
      exact .inl ⟨wst (Nat.le_refl _), e.nx S' σ' H' ds' n' (hd ds' n' hI) b' r' (e1.trans ex')⟩
theorem s_while {tb : TS} (I : Nat → List (Option D) → Nat → Prop) (m0 : Nat) (h0 : I m0 ds n)
    (h : ∀ m ds1 n1, I m ds1 n1 → WpT K w c ds1 n1 fun b n2 => (b = true → WpS K w tb ds1 n2 { nx := fun ds' n' => ∃ m', m' < m ∧ I m' ds' n', rt := k.rt, bk := k.nx, ct := fun ds' n' => ∃ m', m' < m ∧ I m' ds' n' }) ∧ (b = false → k.nx ds1 n2)) :
    WpS K w (tWhile c tb) ds n k := fun S0 H0 S σ H E b r e => by
  let W : Nat → St → Hp → Prop := fun m σ' H' => ∃ S' ds' n', I m ds' n' ∧ Base w K S0 H0 S' H' n' ∧ RpE K w S' H0 H' σ' ds' ∧ Ex (cut S H) (cut S' H')
  refine ⟨W, ⟨m0, S, ds, n, h0, b, r, Evl.Ex.refl _⟩, ?_⟩
  rintro m σ' H' ⟨S', ds', n', hI, b', r', ex'⟩
  refine h m ds' n' hI S' H0 σ' H' _ r' b'.ok fun x H1 n1 ⟨h1, h2⟩ p1 ok1 => ?_
  have ex1 := ex'.trans (ex_cut b'.ok p1)
  cases x with
  | false => exact e.nx S' σ' H1 ds' n1 (h2 rfl) (b'.up p1 ok1) (r'.up b'.ok p1) ex1
  | true =>
    refine ⟨fun σ2 H2 => ∃ m', m' < m ∧ W m' σ2 H2, fun σ2 H2 z => z, ?_⟩
    refine h1 rfl S0 H0 S' σ' H1 _ (b'.up p1 ok1) (r'.up b'.ok p1) ⟨fun S5 σ5 H5 ds5 n5 ⟨m', hm, hk⟩ b5 r5 e5 => ⟨m', hm, S5, ds5, n5, hk, b5, r5, ex1.trans e5⟩, e.rt, fun S5 σ5 H5 ds5 n5 hk b5 r5 e5 => e.nx S5 σ5 H5 ds5 n5 hk b5 r5 (ex1.trans e5), fun S5 σ5 H5 ds5 n5 ⟨m', hm, hk⟩ b5 r5 e5 => ⟨m', hm, S5, ds5, n5, hk, b5, r5, ex1.trans e5⟩⟩
end
end DW
set_option Elab.async false
set_option maxRecDepth 100000
set_option maxHeartbeats 4000000
set_option linter.all false
set_option autoImplicit false
namespace DW
variable [Tb]
open PySem L2

/-! ### promises by data -/
abbrev DSp := List D → Nat → Kn → Prop
/-- .. told for each pen -/
abbrev DSpW := Option Addr → DSp
def toSp (K : PySem.W.Frag) (sp : DSpW) : Sp := fun vs H Q _ => ∃ (w : Option Addr) (S : Addr → Bool) (ds : List D) (n : Nat) (k : Kn), Rps K (cut S H) vs ds ∧ OkW K w S H n ∧ sp w ds n k ∧ Po K w S H k Q
def dstart (N : List Str) (ds : List D) : List (Option D) := ds.map some ++ List.replicate (N.length - ds.length) none
section
variable {K : PySem.W.Frag} {w : Option Addr} {S : Addr → Bool} {H H0 H1 H2 H' : Hp} {n m : Nat} {σ : St} {ds : List (Option D)} {ta tb te : TE} {tA tB : TA} {k : Kn}
theorem Rps.noOwn : ∀ {vs : List V} {es : List D}, Rps K H vs es → ∀ l, D.own l ∉ es
  | _, _, .nil, l, h => by cases h
  | _, _, .cons a b, l, h => by
    rcases List.mem_cons.mp h with z | z
    · subst z; cases a
    · exact Rps.noOwn b l z
theorem rpE_start {N : List Str} {vs : List V} {es : List D} (r : Rps K (cut S H) vs es) : RpE K w S H H (L2.start N vs) (dstart N es) := by
  have hl := r.length
  have g : ∀ (i : Nat) (d : D), (dstart N es)[i]? = some (some d) → es[i]? = some d := fun i d h => by
    unfold dstart at h
    by_cases hi : i < es.length
    · rw [List.getElem?_append_left (by simpa using hi), List.getElem?_map] at h
      obtain ⟨d', h1, h2⟩ := Option.map_eq_some_iff.mp h
      cases h2; exact h1
    · rw [List.getElem?_append_right (by simpa using hi), List.getElem?_replicate] at h
      split at h <;> cases h
  refine ⟨by unfold L2.start dstart; simp [hl], fun i d h o => ?_, fun i l h => ?_, fun i j l m a hij h => ?_⟩
  · obtain ⟨v, h1, h2⟩ := r.get (g i d h)
    refine ⟨v, ?_, h2⟩
    unfold L2.start
    have hi : i < vs.length := (List.getElem?_eq_some_iff.mp h1).1
    rw [List.getElem?_append_left (by simpa using hi), List.getElem?_map, h1]; rfl
  · exact absurd (List.mem_of_getElem? (g i _ h)) (r.noOwn l)
  · exact absurd (List.mem_of_getElem? (g i _ h)) (r.noOwn l)
theorem body_ok {N : List Str} {t : TS} {vs : List V} {es : List D} {Q : VK} (hw : WpS K w t (dstart N es) n { nx := fun _ n' => k .non n', rt := k }) (r : Rps K (cut S H) vs es) (ok : OkW K w S H n) (p : Po K w S H k Q) :
    t { nx := fun _ H' => Q .non H', rt := Q } (L2.start N vs) H := by
  refine hw S H S _ H _ ⟨Pres.refl, ok, fun a h => h, fun a h => .inl h, fun p hp => (ok.1 p hp).1, ok.2, fun a h => (ok.3 a h).1⟩ (rpE_start r) ⟨fun S' σ' H' ds' n' hk b r' e' => ?_, fun v H' d n' hk pr ok' r' => p v H' d n' hk pr ok' r', fun S' σ' H' ds' n' hk => hk.elim, fun S' σ' H' ds' n' hk => hk.elim⟩
  exact p .non H' .non n' hk b.pres (b.ok.less b.sub b.pen b.tab) .non
theorem e_call {sp : DSpW} {E : XK} (h : WpA K w tA ds n fun es n1 => sp w es n1 k) : WpE K w (tCall (toSp K sp) [] E tA) ds n k := fun S H0 σ H Q re ok p =>
  h S H0 σ H _ re ok fun vs H1 es n1 h1 p1 ok1 r1 => ⟨w, S, es, n1, k, by rw [List.append_nil]; exact r1, ok1, h1, p.from p1⟩
/-- the rest by defaults -/
theorem e_callD {sp : DSpW} {E : XK} {dvs : List V} {des : List D} (hd : Rps K (fun _ => none) dvs des) (h : WpA K w tA ds n fun es n1 => sp w (es ++ des) n1 k) : WpE K w (tCall (toSp K sp) dvs E tA) ds n k := fun S H0 σ H Q re ok p =>
  h S H0 σ H _ re ok fun vs H1 es n1 h1 p1 ok1 r1 => ⟨w, S, es ++ des, n1, k, r1.append (hd.mono fun _ _ z => by cases z), ok1, h1, p.from p1⟩
/-- keywords alone: zs by the order of the text, gV their places -/
theorem e_callK {sp : DSpW} {E : XK} {tk : TA} {gV : List V → List V → List V} {gD : List D → List D → List D} {a b : Nat} (hg : ∀ {H : Hp} {vs zs : List V} {es fs : List D}, Rps K H vs es → Rps K H zs fs → Rps K H (gV vs zs) (gD es fs))
    (h : WpA K w tA ds n fun es n1 => WpA K w tk ds n1 fun fs n2 => es.length = a ∧ fs.length = b ∧ sp w (gD es fs) n2 k) : WpE K w (tCallN a b (toSp K sp) gV E tA tk) ds n k := fun S H0 σ H Q re ok p =>
  h S H0 σ H _ re ok fun vs H1 es n1 h1 p1 ok1 r1 => h1 S H0 σ H1 _ (re.up ok p1) ok1 fun zs H2 fs n2 ⟨la, lb, hs⟩ p2 ok2 r2 =>
    ⟨by rw [r1.length]; exact la, by rw [r2.length]; exact lb, w, S, gD es fs, n2, k, hg (r1.mono (ex_cut ok1 p2)) r2, ok2, hs, (p.from p1).from p2⟩

/-! ### attributes -/
theorem zip_lookup : ∀ {ns : List Str} {xs : List V} {l : List D} {f : Str} {d : D}, Rps K H xs l → xs.length = ns.length → (ns.zip l).lookup f = some d → ∃ v, (ns.zip xs).lookup f = some v ∧ Rp K H v d
  | [], _, _, _, _, _, _, h => by simp at h
  | _ :: _, [], _, _, _, _, hl, _ => by simp at hl
  | nm :: ns, x :: xs, _, f, d, .cons a b, hl, h => by
    rw [List.zip_cons_cons, List.lookup_cons] at h ⊢
    cases e : f == nm with
    | true => rw [e] at h; cases h; exact ⟨x, rfl, a⟩
    | false => rw [e] at h; exact zip_lookup b (by simpa using hl) h
theorem e_fld {f : Str} (h : WpE K w ta ds n fun d n1 => ∃ C ns l e, d = .obj C ns l ∧ Cls K C ∧ NoAttr K C f ∧ (ns.zip l).lookup f = some e ∧ k e n1) : WpE K w (tFld K ta f) ds n k := fun S H0 σ H Q re ok p =>
  h S H0 σ H _ re ok fun v H1 d n1 ⟨C, ns, l, e, ed, hc, hn, hl, hk⟩ p1 ok1 r1 => by
    subst ed
    cases r1 with
    | obj hO hlen hx =>
      obtain ⟨v', h1, h2⟩ := zip_lookup hx hlen hl
      exact ⟨_, C, _, _, v', rfl, (cut_some hO).2, hc, hn, h1, p v' H1 e n1 hk p1 ok1 h2⟩
/-! ### a new instance: x stands for the object while its __init__ runs -/
/-- all but x and the tables stays, nothing is gone -/
structure Keep (x : Addr) (H H' : Hp) : Prop where
  go : ∀ (a : Addr) (o : HO), a ≠ x → Tb.tab a = false → H a = some o → noT o = true → H' a = some o
  back : ∀ a, H' a = none → H a = none
theorem Keep.refl {x : Addr} {H : Hp} : Keep x H H := ⟨fun _ _ _ _ h _ => h, fun _ h => h⟩
theorem Keep.trans {x : Addr} {H H1 H2 : Hp} (a : Keep x H H1) (b : Keep x H1 H2) : Keep x H H2 := ⟨fun c o n t h k => b.go c o n t (a.go c o n t h k) k, fun c h => a.back c (b.back c h)⟩
theorem Keep.of {x : Addr} {H H' : Hp} (p : Pres none H H') : Keep x H H' := ⟨fun a o _ t h k => p.go a o ⟨by simp, t⟩ h k, p.back⟩
theorem Keep.upd {x : Addr} {H : Hp} {o : HO} : Keep x H (upd H x o) := ⟨fun a o n _ h _ => by rw [upd_ne n]; exact h, fun a h => NdefX.upd_none h⟩
theorem Keep.new {x p : Addr} {H : Hp} {o : HO} (hp : H p = none) : Keep x H (L2.upd H p o) := ⟨fun a u _ _ h _ => by rw [upd_ne (ne_of_none h hp)]; exact h, fun a h => NdefX.upd_none h⟩
def initSp (K : PySem.W.Frag) (C : Addr) (g : List D → List Str → List D → Prop) : Sp := fun vs H Q _ => ∃ (x dx : Addr) (S : Addr → Bool) (avs : List V) (es : List D) (ns : List Str) (l : List D),
  vs = .ref x :: avs ∧ S x = true ∧ Tb.tab x = false ∧ OkW K none S H 0 ∧ H x = some (.ins C dx []) ∧ Rps K (cut S H) avs es ∧ g es ns l ∧
  ∀ (H' : Hp) (xs : List V), Keep x H H' → OkW K none S H' 0 → H' x = some (.ins C dx (ns.zip xs)) → xs.length = ns.length → Rps K (cut S H') xs l → Q .non H'
theorem init_use {C x dx : Addr} {g : List D → List Str → List D → Prop} {vs : List V} {es : List D} {ns : List Str} {l : List D} {Q : VK} {E : XK} (ok : OkW K w S H n) (r : Rps K (cut S H) vs es) (hg : g es ns l) (hx : H x = none) (hdx : H dx = none) (hne : dx ≠ x)
    (p : Po K w S H k Q) (hk : k (.obj C ns l) n) : initSp K C g (.ref x :: vs) (upd (upd H dx (.own x)) x (.ins C dx [])) (fun v H2 => v = .non ∧ Q (.ref x) H2) E := by
  have hx1 : (upd H dx (.own x)) x = none := by rw [upd_ne (Ne.symm hne)]; exact hx
  have ok1 : OkW K w S (upd H dx (.own x)) n := ok.new hdx
  have pr1 : Pres w H (upd H dx (.own x)) := Pres.new hdx
  have hS : S x = false := ok.fresh hx
  have okA : OkW K w (addS S x) (upd (upd H dx (.own x)) x (.ins C dx [])) n := ok1.addS hx1
  refine ⟨x, dx, addS S x, vs, es, ns, l, rfl, addS_same, (ok.w_ne hS).2, ⟨fun p h => (nomatch h), okA.2, okA.3, okA.4⟩, upd_same, (r.mono (ex_cut ok pr1)).mono (cut_addS hx1), hg, fun H' xs hp ok' hx' hlen hxs => ⟨rfl, ?_⟩⟩
  have sub : ∀ a, S a = true → addS S x a = true := fun a h => addS_of h
  have kp : ∀ a o, Tb.tab a = false → H a = some o → noT o = true → H' a = some o := fun a o ht e t => hp.go a o (ne_of_none e hx) ht (by rw [upd_ne (ne_of_none e hx), upd_ne (ne_of_none e hdx)]; exact e) t
  have pr : Pres w H H' := ⟨fun a o hf e t => kp a o hf.2 e t, fun a e => NdefX.upd_none (NdefX.upd_none (hp.back a e))⟩
  have exc : Ex (cut S H) (cut S H') := ex_cut ok pr
  have okB : OkW K w S H' n := by
    refine ⟨fun q hq => ⟨(ok.1 q hq).1, ?_⟩, fun a h => ok'.2 a (sub a h), fun a h => ⟨(ok.3 a h).1, (ok'.3 a h).2⟩, fun a h => ok'.4 a (sub a h)⟩
    obtain ⟨c, ix, left, ns', h1, h2, h3⟩ := (ok.1 q hq).2
    have ht : Tb.tab q = false := by
      cases z : Tb.tab q with
      | false => rfl
      | true =>
        obtain ⟨ps, e, _⟩ := (ok.3 q z).2
        rw [h1] at e; cases e
    exact ⟨c, ix, left, ns', kp q _ ht h1 rfl, exc _ _ h2, h3⟩
  refine p (.ref x) H' _ n hk pr okB (.obj (dx := dx) (xs := xs) ?_ hlen (hxs.mono (cut_sub sub)))
  exact cut_mk hS hx'
theorem e_makeR {C : Addr} {sp : Sp} {g : List D → List Str → List D → Prop} {E : XK} (hsp : ∀ vs H Q E, initSp K C g vs H Q E → sp vs H Q E) (h : WpA K w tA ds n fun es n1 => ∃ ns l, g es ns l ∧ k (.obj C ns l) n1) : WpE K w (StX.tMakeR C sp E tA) ds n k := fun S H0 σ H Q re ok p =>
  h S H0 σ H _ re ok fun vs H1 es n1 ⟨ns, l, hg, hk⟩ p1 ok1 r1 => fun x dx hx hdx hne => hsp _ _ _ _ (init_use ok1 r1 hg hx hdx hne (p.from p1) hk)
theorem e_make {C : Addr} {g : List D → List Str → List D → Prop} {E : XK} (h : WpA K w tA ds n fun es n1 => ∃ ns l, g es ns l ∧ k (.obj C ns l) n1) : WpE K w (tMake C (initSp K C g) [] E tA) ds n k := fun S H0 σ H Q re ok p =>
  h S H0 σ H _ re ok fun vs H1 es n1 ⟨ns, l, hg, hk⟩ p1 ok1 r1 => fun x dx hx hdx hne => by rw [List.append_nil]; exact init_use ok1 r1 hg hx hdx hne (p.from p1) hk
theorem e_makeD {C : Addr} {g : List D → List Str → List D → Prop} {E : XK} {dvs : List V} {des : List D} (hd : Rps K (fun _ => none) dvs des) (h : WpA K w tA ds n fun es n1 => ∃ ns l, g (es ++ des) ns l ∧ k (.obj C ns l) n1) : WpE K w (tMake C (initSp K C g) dvs E tA) ds n k := fun S H0 σ H Q re ok p =>
  h S H0 σ H _ re ok fun vs H1 es n1 ⟨ns, l, hg, hk⟩ p1 ok1 r1 => fun x dx hx hdx hne => init_use ok1 (r1.append (hd.mono fun _ _ z => by cases z)) hg hx hdx hne (p.from p1) hk

/-! ### operators by data -/
section
variable {X : Cx}
abbrev rAddS : R2 := fun x y H Q => ∃ i j, x = .str i ∧ y = .str j ∧ i.length + j.length ≤ sizeLine ∧ Q (.str (i ++ j)) H
def rAddU (K : PySem.W.Frag) : R2 := fun x y H Q => rI0 (fun i j => .int (i + j)) x y H Q ∨ rAddS x y H Q ∨ rCat x y H Q ∨ rCatA K x y H Q ∨ ∃ i k, x = .int i ∧ y = .bl k ∧ Q (.int (i + PyProof.Rows.b2i k)) H
theorem op_addU : OpR X (binaryOp .Add) (rAddU X.K) := op_add.or (op_add_str.or (op_cat.or (op_catA.or op_add_ib)))
def rMulU : R2 := fun x y H Q => rI CMul (fun i j => .int (i * j)) x y H Q ∨ rI CMulW (fun i j => .int (i * j)) x y H Q ∨ rRep x y H Q
theorem op_mulU : OpR X (binaryOp .Mult) rMulU := op_mul.or (op_mulW.or op_rep)
def rDivU : R2 := fun x y H Q => rI CDivW (fun i j => .int (i / j)) x y H Q ∨ rI CDivN (fun i j => .int (i.fdiv j)) x y H Q
theorem op_divU : OpR X (binaryOp .FloorDiv) rDivU := op_fdivW.or op_fdivN
def rModU : R2 := fun x y H Q => rI (fun _ j => 0 < j) (fun i j => .int (i % j)) x y H Q ∨ rI (fun _ j => j ≠ 0) (fun i j => .int (i.fmod j)) x y H Q
theorem op_modU : OpR X (binaryOp .Mod) rModU := op_mod.or op_modN
/-- a list beside an empty one, whatever stands in it -/
def rEqE (K : PySem.W.Frag) : R2 := fun x y H Q => ∃ a b xs, x = .ref a ∧ y = .ref b ∧ SqL K H a xs ∧ SqL K H b [] ∧ Q (.bl xs.isEmpty) H
def rNeE (K : PySem.W.Frag) : R2 := fun x y H Q => ∃ a b xs, x = .ref a ∧ y = .ref b ∧ SqL K H a xs ∧ SqL K H b [] ∧ Q (.bl (!xs.isEmpty)) H
theorem op_eqE (hu : X.A.units + 64 < cLine) : OpR X (compareOp .Eq) (rEqE X.K) := by
  intro pins s σ H x y v u Q I rx ry h
  obtain ⟨a, b, xs, rfl, rfl, ha, hb, q⟩ := h
  cases rx; cases ry
  obtain ⟨its, rv, ⟨o, n, ho, hc, _, hd⟩, _⟩ := I.list ha
  obtain ⟨its2, rv2, ⟨o2, n2, ho2, hc2, _, hd2⟩, _⟩ := I.list hb
  have l1 := rv.length
  have l2 := rv2.length
  have q1 : s.heap.IsList a its.toArray := ⟨o, ho, hc, n, hd⟩
  have q2 : s.heap.IsList b its2.toArray := ⟨o2, ho2, hc2, n2, hd2⟩
  have l2 : its2.length = 0 := l2.symm
  cases xs with
  | nil =>
    have l1 : its.length = 0 := l1.symm
    refine SeqAt.eq_listAt (e := fun _ => true) q1 q2 (by simp [l1, l2]) (by omega) (fun j h1 h2 => by simp [l1] at h1) ⟨.bl _, H, I, ?_, q⟩
    simp [l1, RelV]
  | cons x xs =>
    have l1 : its.length = xs.length + 1 := l1.symm
    exact SeqAt.eq_list_lengthsAt q1 q2 (by simp [l1, l2]) (by omega) ⟨.bl _, H, I, rfl, q⟩
theorem op_neE (hu : X.A.units + 64 < cLine) : OpR X (compareOp .NotEq) (rNeE X.K) := by
  intro pins s σ H x y v u Q I rx ry h
  obtain ⟨a, b, xs, rfl, rfl, ha, hb, q⟩ := h
  cases rx; cases ry
  obtain ⟨its, rv, ⟨o, n, ho, hc, _, hd⟩, _⟩ := I.list ha
  obtain ⟨its2, rv2, ⟨o2, n2, ho2, hc2, _, hd2⟩, _⟩ := I.list hb
  have l1 := rv.length
  have l2 := rv2.length
  have q1 : s.heap.IsList a its.toArray := ⟨o, ho, hc, n, hd⟩
  have q2 : s.heap.IsList b its2.toArray := ⟨o2, ho2, hc2, n2, hd2⟩
  have l2 : its2.length = 0 := l2.symm
  cases xs with
  | nil =>
    have l1 : its.length = 0 := l1.symm
    refine SeqAt.RcNeAt.lists (e := fun _ => true) q1 q2 (by simp [l1, l2]) (by omega) (fun j h1 h2 => by simp [l1] at h1) X.prog X.w _ _ ⟨.bl _, H, I, ?_, q⟩
    simp [l1, RelV]
  | cons x xs =>
    have l1 : its.length = xs.length + 1 := l1.symm
    exact SeqAt.RcNeAt.lists_lengths q1 q2 (by simp [l1, l2]) (by omega) X.prog X.w _ _ ⟨.bl _, H, I, rfl, q⟩
def rEqU (K : PySem.W.Frag) : R2 := fun x y H Q => rEq x y H Q ∨ rEqD K x y H Q ∨ rEqE K x y H Q
theorem op_eqU (hu : X.A.units + 64 < cLine) : OpR X (compareOp .Eq) (rEqU X.K) := op_eq.or ((op_eqD hu).or (op_eqE hu))
def rNeU (K : PySem.W.Frag) : R2 := fun x y H Q => rNe x y H Q ∨ rNeD K x y H Q ∨ rNeE K x y H Q
theorem op_neU (hu : X.A.units + 64 < cLine) : OpR X (compareOp .NotEq) (rNeU X.K) := op_ne.or ((op_neD hu).or (op_neE hu))
def rIsU : R2 := fun x y H Q => y = .non ∧ Q (.bl (decide (x = .non))) H
def rIsNU : R2 := fun x y H Q => y = .non ∧ Q (.bl (!decide (x = .non))) H
theorem op_isU : OpR X (compareOp .Is) rIsU := op_isN
theorem op_isNU : OpR X (compareOp .IsNot) rIsNU := op_notN
end
theorem rd_I0 {g : Int → Int → V} {d' : Int → Int → D} {i j : Int} (hg : ∀ (H : Hp) i j, Rp K H (g i j) (d' i j)) (hk : k (d' i j) n) : RD K w (rI0 g) (.int i) (.int j) n k := fun S v u H Q a b ok p => by
  cases a; cases b; exact ⟨i, j, rfl, rfl, p _ H _ n hk Pres.refl ok (hg _ i j)⟩
theorem rd_addI {i j : Int} (hk : k (.int (i + j)) n) : RD K w (rAddU K) (.int i) (.int j) n k := fun S v u H Q a b ok p => by
  cases a; cases b; exact .inl ⟨i, j, rfl, rfl, p _ H _ n hk Pres.refl ok (.int _)⟩
theorem rd_addIB {i : Int} {j : Bool} (hk : k (.int (i + PyProof.Rows.b2i j)) n) : RD K w (rAddU K) (.int i) (.bl j) n k := fun S v u H Q a b ok p => by
  cases a; cases b; exact .inr (.inr (.inr (.inr ⟨i, j, rfl, rfl, p _ H _ n hk Pres.refl ok (.int _)⟩)))
theorem rd_addS {i j : Str} (hz : i.length + j.length ≤ 100000) (hk : k (.str (i ++ j)) n) : RD K w (rAddU K) (.str i) (.str j) n k := fun S v u H Q a b ok p => by
  cases a; cases b; exact .inr (.inl ⟨i, j, rfl, rfl, Evl.sz_of hz, p _ H _ n hk Pres.refl ok (.str _)⟩)
theorem rd_addL {i j : List D} (hz : i.length + j.length ≤ 100000) (hk : k (.lst (i ++ j)) n) : RD K w (rAddU K) (.lst i) (.lst j) n k := fun S v u H Q a b ok p => by
  cases a with
  | lst hA xA =>
    cases b with
    | lst hB xB =>
      exact .inr (.inr (.inl ⟨_, _, _, _, rfl, rfl, (cut_some hA).2, (cut_some hB).2, Evl.sz_of (by rw [xA.length, xB.length]; exact hz), fun q hq =>
        p _ _ _ n hk (Pres.new hq) (ok.new hq) (.lst (cut_new ok hq) ((xA.append xB).mono (ex_cut ok (Pres.new hq))))⟩))
theorem rd_addT {i j : List D} (hz : i.length + j.length ≤ 100000) (hk : k (.tup (i ++ j)) n) : RD K w (rAddU K) (.tup i) (.tup j) n k := fun S v u H Q a b ok p => by
  cases a with
  | @tup aa xs _ hA xA =>
    cases b with
    | @tup bb ys _ hB xB =>
      have e := cut_ex S H
      have lA := xA.length
      have lB := xB.length
      refine .inr (.inr (.inr (.inl ⟨aa, bb, xs, ys, rfl, rfl, Evl.ex_t e hA, Evl.ex_t e hB, Evl.sz_of (by omega), fun z => ?_, fun _ z => ?_, fun _ _ q hq => ?_⟩)))
      · subst z
        have : i = [] := by cases i with
          | nil => rfl
          | cons _ _ => simp at lA
        subst this
        exact p _ H _ n hk Pres.refl ok (.tup hB xB)
      · subst z
        have : j = [] := by cases j with
          | nil => rfl
          | cons _ _ => simp at lB
        subst this
        rw [List.append_nil] at hk
        exact p _ H _ n hk Pres.refl ok (.tup hA xA)
      · exact p _ _ _ n hk (Pres.new hq) (ok.new hq) (.tup (SqT.of (cut_new ok hq)) ((xA.append xB).mono (ex_cut ok (Pres.new hq))))
theorem rd_sub {i j : Int} (hk : k (.int (i - j)) n) : RD K w (rI0 fun i j => .int (i - j)) (.int i) (.int j) n k := rd_I0 (d' := fun i j => .int (i - j)) (fun _ _ _ => .int _) hk
theorem rd_mul {i j : Int} (hc : CMul i j ∨ CMulW i j) (hk : k (.int (i * j)) n) : RD K w rMulU (.int i) (.int j) n k := fun S v u H Q a b ok p => by
  cases a; cases b
  rcases hc with hc | hc
  · exact .inl ⟨i, j, rfl, rfl, hc, p _ H _ n hk Pres.refl ok (.int _)⟩
  · exact .inr (.inl ⟨i, j, rfl, rfl, hc, p _ H _ n hk Pres.refl ok (.int _)⟩)
theorem rd_rep {l : List D} {j : Int} (h1 : -(2 ^ 63) ≤ j) (h2 : j < 2 ^ 63) (hz : l.length * j.toNat ≤ 100000) (hk : k (.lst (List.replicate j.toNat l).flatten) n) : RD K w rMulU (.lst l) (.int j) n k := fun S v u H Q a b ok p => by
  cases b
  cases a with
  | lst hA xA =>
    have rep : ∀ m : Nat, Rps K (cut S H) (List.replicate m _).flatten (List.replicate m l).flatten := fun m => by
      induction m with
      | zero => exact .nil
      | succ m ih => rw [List.replicate_succ, List.replicate_succ, List.flatten_cons, List.flatten_cons]; exact xA.append ih
    exact .inr (.inr ⟨_, j, _, rfl, rfl, (cut_some hA).2, h1, h2, Evl.sz_of (by rw [xA.length]; exact hz), fun q hq =>
      p _ _ _ n hk (Pres.new hq) (ok.new hq) (.lst (cut_new ok hq) ((rep j.toNat).mono (ex_cut ok (Pres.new hq))))⟩)
theorem rd_div {i j : Int} (hc : CDivW i j) (hk : k (.int (i / j)) n) : RD K w rDivU (.int i) (.int j) n k := fun S v u H Q a b ok p => by
  cases a; cases b; exact .inl ⟨i, j, rfl, rfl, hc, p _ H _ n hk Pres.refl ok (.int _)⟩
theorem rd_mod {i j : Int} (hc : 0 < j) (hk : k (.int (i % j)) n) : RD K w rModU (.int i) (.int j) n k := fun S v u H Q a b ok p => by
  cases a; cases b; exact .inl ⟨i, j, rfl, rfl, hc, p _ H _ n hk Pres.refl ok (.int _)⟩
theorem rd_pow {i j : Int} (hc : CPow i j) (hk : k (.int (i ^ j.toNat)) n) : RD K w (rI CPow fun i j => .int (i ^ j.toNat)) (.int i) (.int j) n k := fun S v u H Q a b ok p => by
  cases a; cases b; exact ⟨i, j, rfl, rfl, hc, p _ H _ n hk Pres.refl ok (.int _)⟩
theorem ru_neg {i : Int} (hk : k (.int (-i)) n) : RU K w (rU fun i => .int (-i)) (.int i) n k := fun S v H Q a ok p => by
  cases a; exact ⟨i, rfl, p _ H _ n hk Pres.refl ok (.int _)⟩
theorem rd_lt {i j : Int} (hk : k (.bl (decide (i < j))) n) : RD K w (rI0 fun i j => .bl (decide (i < j))) (.int i) (.int j) n k := rd_I0 (d' := fun i j => .bl (decide (i < j))) (fun _ _ _ => .bl _) hk
theorem rd_le {i j : Int} (hk : k (.bl (decide (i ≤ j))) n) : RD K w (rI0 fun i j => .bl (decide (i ≤ j))) (.int i) (.int j) n k := rd_I0 (d' := fun i j => .bl (decide (i ≤ j))) (fun _ _ _ => .bl _) hk
theorem rd_gt {i j : Int} (hk : k (.bl (decide (j < i))) n) : RD K w (rI0 fun i j => .bl (decide (j < i))) (.int i) (.int j) n k := rd_I0 (d' := fun i j => .bl (decide (j < i))) (fun _ _ _ => .bl _) hk
theorem rd_ge {i j : Int} (hk : k (.bl (decide (j ≤ i))) n) : RD K w (rI0 fun i j => .bl (decide (j ≤ i))) (.int i) (.int j) n k := rd_I0 (d' := fun i j => .bl (decide (j ≤ i))) (fun _ _ _ => .bl _) hk
theorem dI {i j : Int} : decide (V.int i = V.int j) = decide (i = j) := by
  by_cases h : i = j
  · subst h; simp
  · rw [decide_eq_false h, decide_eq_false (fun e => h (V.int.inj e))]
theorem dS {i j : Str} : decide (V.str i = V.str j) = decide (i = j) := by
  by_cases h : i = j
  · subst h; simp
  · rw [decide_eq_false h, decide_eq_false (fun e => h (V.str.inj e))]
theorem dB {i j : Bool} : decide (V.bl i = V.bl j) = decide (i = j) := by cases i <;> cases j <;> rfl
theorem rd_eqI {i j : Int} (hk : k (.bl (decide (i = j))) n) : RD K w (rEqU K) (.int i) (.int j) n k := fun S v u H Q a b ok p => by
  cases a; cases b; exact .inl ⟨rfl, by rw [dI]; exact p _ H _ n hk Pres.refl ok (.bl _)⟩
theorem rd_eqS {i j : Str} (hk : k (.bl (decide (i = j))) n) : RD K w (rEqU K) (.str i) (.str j) n k := fun S v u H Q a b ok p => by
  cases a; cases b; exact .inl ⟨rfl, by rw [dS]; exact p _ H _ n hk Pres.refl ok (.bl _)⟩
theorem rd_neI {i j : Int} (hk : k (.bl (!decide (i = j))) n) : RD K w (rNeU K) (.int i) (.int j) n k := fun S v u H Q a b ok p => by
  cases a; cases b; exact .inl ⟨rfl, by rw [dI]; exact p _ H _ n hk Pres.refl ok (.bl _)⟩
theorem rd_neS {i j : Str} (hk : k (.bl (!decide (i = j))) n) : RD K w (rNeU K) (.str i) (.str j) n k := fun S v u H Q a b ok p => by
  cases a; cases b; exact .inl ⟨rfl, by rw [dS]; exact p _ H _ n hk Pres.refl ok (.bl _)⟩
def isNon : D → Bool
  | .non => true
  | _ => false
def isRaw : D → Bool
  | .raw _ => true
  | _ => false
theorem rd_is {d : D} (hr : isRaw d = false) (hk : k (.bl (isNon d)) n) : RD K w rIsU d .non n k := fun S v u H Q a b ok p => by
  cases b
  refine ⟨rfl, ?_⟩
  have e : decide (v = V.non) = isNon d := by cases a <;> first | rfl | (exact absurd hr (by simp [isRaw])) | simp [isNon]
  rw [e]; exact p _ H _ n hk Pres.refl ok (.bl _)
theorem rd_isN {d : D} (hr : isRaw d = false) (hk : k (.bl (!isNon d)) n) : RD K w rIsNU d .non n k := fun S v u H Q a b ok p => by
  cases b
  refine ⟨rfl, ?_⟩
  have e : decide (v = V.non) = isNon d := by cases a <;> first | rfl | (exact absurd hr (by simp [isRaw])) | simp [isNon]
  rw [e]; exact p _ H _ n hk Pres.refl ok (.bl _)

/-! ### subscripts -/
theorem rd_ixL {l : List D} {i : Int} {d : D} (ha : atI l i = some d) (hk : k d n) : RD K w (rIx K) (.lst l) (.int i) n k := fun S v u H Q a b ok p => by
  cases b
  cases a with
  | @lst aa xs _ hA xA =>
    obtain ⟨j, h1, h2⟩ := Option.bind_eq_some_iff.mp ha
    obtain ⟨x, hx, rx⟩ := xA.get h2
    refine .inl ⟨aa, xs, i, x, rfl, rfl, SqL.of (cut_some hA).2, ?_, p _ H _ n hk Pres.refl ok rx⟩
    unfold atI; rw [xA.length, h1]; exact hx
theorem rd_ixT {l : List D} {i : Int} {d : D} (ha : atI l i = some d) (hk : k d n) : RD K w (rIx K) (.tup l) (.int i) n k := fun S v u H Q a b ok p => by
  cases b
  cases a with
  | @tup aa xs _ hA xA =>
    obtain ⟨j, h1, h2⟩ := Option.bind_eq_some_iff.mp ha
    obtain ⟨x, hx, rx⟩ := xA.get h2
    refine .inr (.inl ⟨aa, xs, i, x, rfl, rfl, Evl.ex_t (cut_ex S H) hA, ?_, p _ H _ n hk Pres.refl ok rx⟩)
    unfold atI; rw [xA.length, h1]; exact hx
/-! ### slices -/
def cutD (l : List D) (lo hi : Option Int) : List D := (l.drop (HT.sIx l.length 0 lo)).take (HT.sIx l.length l.length hi - HT.sIx l.length 0 lo)
def WpO (K : PySem.W.Frag) (w : Option Addr) (t : TO) (ds : List (Option D)) (n : Nat) (k : Option Int → Nat → Prop) : Prop :=
  ∀ (S : Addr → Bool) (H0 : Hp) (σ : St) (H : Hp) (Q : Option Int → Hp → Prop), RpE K w S H0 H σ ds → OkW K w S H n → (∀ (b : Option Int) (H' : Hp) (n' : Nat), k b n' → Pres w H H' → OkW K w S H' n' → Q b H') → t σ H Q
theorem o_none {k : Option Int → Nat → Prop} (hk : k none n) : WpO K w tNoPart ds n k := fun S H0 σ H Q re ok p => p none H n hk Pres.refl ok
theorem o_some {k : Option Int → Nat → Prop} (h : WpE K w te ds n fun d n1 => ∃ i, d = .int i ∧ k (some i) n1) : WpO K w (tPart te) ds n k := fun S H0 σ H Q re ok p =>
  h S H0 σ H _ re ok fun v H1 d n1 ⟨i, e, hk⟩ p1 ok1 r1 => by subst e; cases r1; exact ⟨i, rfl, p _ H1 n1 hk p1 ok1⟩
def rSlU (K : PySem.W.Frag) : V → Option Int → Option Int → Hp → VK → Prop := fun x lo hi H Q => rSlL K x lo hi H Q ∨ rSlA K x lo hi H Q
theorem sl_U {X : Cx} : SlR X (rSlU X.K) := sl_list.or sl_tupA
theorem e_slL {tl th : TO} (h : WpE K w te ds n fun d n1 => ∃ l, d = .lst l ∧ WpO K w tl ds n1 fun lo n2 => WpO K w th ds n2 fun hi n3 => k (.lst (cutD l lo hi)) n3) : WpE K w (tSl (rSlU K) te tl th) ds n k := fun S H0 σ H Q re ok p =>
  h S H0 σ H _ re ok fun v H1 d n1 ⟨l, e, h1⟩ p1 ok1 r1 => by
    subst e
    refine h1 S H0 σ H1 _ (re.up ok p1) ok1 fun lo H2 n2 h2 p2 ok2 => h2 S H0 σ H2 _ ((re.up ok p1).up ok1 p2) ok2 fun hi H3 n3 h3 p3 ok3 => ?_
    have r3 := (r1.mono (ex_cut ok1 p2)).mono (ex_cut ok2 p3)
    cases r3 with
    | @lst aa xs _ hA xA =>
      refine .inl ⟨aa, xs, rfl, SqL.of (cut_some hA).2, fun q hq => p _ _ _ n3 h3 (((p1.trans p2).trans p3).trans (Pres.new hq)) (ok3.new hq) (.lst (cut_new ok3 hq) ?_)⟩
      have := (((xA.drop (HT.sIx xs.length 0 lo)).take (HT.sIx xs.length xs.length hi - HT.sIx xs.length 0 lo)).mono (ex_cut ok3 (Pres.new (o := .lst (cutV xs lo hi)) hq)))
      unfold cutV cutD
      rw [← xA.length]; exact this
end
end DW
set_option Elab.async false
set_option maxRecDepth 100000
set_option maxHeartbeats 4000000
set_option linter.all false
set_option autoImplicit false
/-! the least of some pairs of numbers -/
namespace DW
variable [Tb]
open PySem PySem.Spec PyProof.Rows L2
def pPy (p : Int × Int) : PyData := .tuple [.int p.1, .int p.2]
/-- pairs in their order -/
def pLe (p q : Int × Int) : Prop := p.1 < q.1 ∨ (p.1 = q.1 ∧ p.2 ≤ q.2)
theorem pLe.refl (p : Int × Int) : pLe p p := .inr ⟨rfl, Int.le_refl _⟩
theorem pLe.trans {p q r : Int × Int} (h : pLe p q) (k : pLe q r) : pLe p r := by
  unfold pLe at *
  omega
theorem minD_pairs : ∀ (l : List (Int × Int)) (p : Int × Int), ∃ q, q ∈ p :: l ∧ (∀ r ∈ p :: l, pLe q r) ∧ PySem.W.minD (pPy p) (l.map pPy) = pPy q
  | [], p => ⟨p, by simp, fun r hr => by rw [List.mem_singleton] at hr; subst hr; exact pLe.refl _, rfl⟩
  | a :: l, p => by
    have e : PySem.W.minD (pPy p) ((a :: l).map pPy) = PySem.W.minD (if PySem.W.dataLt (pPy a) (pPy p) = true then pPy a else pPy p) (l.map pPy) := rfl
    have d : PySem.W.dataLt (pPy a) (pPy p) = decide (a.1 < p.1 ∨ (a.1 = p.1 ∧ a.2 < p.2)) := PySem.W.dataLt_ii _ _ _ _
    rw [e, d]
    by_cases h : a.1 < p.1 ∨ (a.1 = p.1 ∧ a.2 < p.2)
    · rw [decide_eq_true h, if_pos rfl]
      obtain ⟨q, h1, h2, h3⟩ := minD_pairs l a
      refine ⟨q, by rcases List.mem_cons.mp h1 with z | z <;> simp [z], fun r hr => ?_, h3⟩
      rcases List.mem_cons.mp hr with rfl | hr
      · refine (h2 a (by simp)).trans ?_
        unfold pLe; omega
      · exact h2 r hr
    · rw [decide_eq_false h, if_neg (by decide)]
      obtain ⟨q, h1, h2, h3⟩ := minD_pairs l p
      refine ⟨q, by rcases List.mem_cons.mp h1 with z | z <;> simp [z], fun r hr => ?_, h3⟩
      rcases List.mem_cons.mp hr with rfl | hr
      · exact h2 _ (by simp)
      · rcases List.mem_cons.mp hr with rfl | hr
        · refine (h2 p (by simp)).trans ?_
          unfold pLe; omega
        · exact h2 r (by simp [hr])
theorem pPy_inj {p q : Int × Int} (h : pPy p = pPy q) : p = q := by
  unfold pPy at h
  injection h with h
  injection h with h1 h2
  injection h2 with h2 _
  injection h1 with h1
  injection h2 with h2
  exact Prod.ext h1 h2
theorem pPy_all (l : List (Int × Int)) : PyData.canLayAll0 (l.map pPy) = true ∧ PyData.depthAll (l.map pPy) ≤ 5 := by
  induction l with
  | nil => exact ⟨rfl, by decide⟩
  | cons p l ih =>
    refine ⟨by rw [List.map_cons, PyData.canLayAll0, ih.1]; rfl, ?_⟩
    rw [List.map_cons, PyData.depthAll]
    have : (pPy p).depth ≤ 5 := by simp [pPy, PyData.depth, PyData.depthAll]
    have := ih.2
    omega
theorem alike_pairs (l : List (Int × Int)) : PySem.W.AlikeAll (l.map pPy) := by
  refine ⟨fun x hx y hy => ?_, fun x hx => ?_⟩
  · obtain ⟨p, _, rfl⟩ := List.mem_map.mp hx
    obtain ⟨q, _, rfl⟩ := List.mem_map.mp hy
    simp [pPy, PySem.W.alike, PySem.W.alikeAll]
  · obtain ⟨p, _, rfl⟩ := List.mem_map.mp hx
    exact fun z => nomatch z
section
variable {X : Cx}
def rMinP (K : PySem.W.Frag) : List V → Hp → VK → Prop := fun vs H Q => ∃ (a : Addr) (xs : List V) (l : List (Int × Int)), vs = [.ref a] ∧ SqL K H a xs ∧ DpAll K H xs (l.map pPy) ∧ l ≠ [] ∧ ∀ (i : Nat) (q : Int × Int) (x : V), l[i]? = some q → xs[i]? = some x → (∀ r ∈ l, pLe q r) → Q x H
theorem cr_minP (hc : X.calm = true) (hu : X.A.units + 64 < cLine) : CallR X (.builtin "min") (rMinP X.K) := by
  intro pins s σ H vs us Q I r h
  obtain ⟨a, xs, l, rfl, hs, hd, hne, q⟩ := h
  obtain ⟨its, rv, hl, _⟩ := I.list hs
  obtain ⟨as, rd⟩ := Dp.readsAll I _ _ _ hd rv
  rw [Vals.ref1 r]
  cases l with
  | nil => exact absurd rfl hne
  | cons p l =>
    have hz := (pPy_all (p :: l)).2
    refine PySem.W.min_list_data (vs := its.toArray) (I.ok.hd hc) hl.isList (by simpa using rd) (alike_pairs (p :: l)) (by show X.A.units + 1 + PyData.depthAll ((p :: l).map pPy) < cLine; omega) fun i v h' tk bs hv hr hk => ?_
    obtain ⟨z, h1, h2, h3⟩ := minD_pairs l p
    obtain ⟨bs', r1, hi, _, _⟩ := PySem.W.readsAll_atA (by simpa using rd) i v hv
    have hi : i < (p :: l).length := by simpa using hi
    have r1 : Reads s.heap v (((p :: l).map pPy).getD i .none) bs' := r1
    have e3 : ((p :: l).map pPy).getD i .none = pPy ((p :: l)[i]) := by rw [List.getD_eq_getElem?_getD, List.getElem?_map, List.getElem?_eq_getElem hi]; rfl
    rw [e3] at r1
    rw [h3] at hr
    have e1 : SeqAt.readOf h' v = pPy ((p :: l)[i]) := SeqAt.readOf_eq rfl (PySem.W.reads_keeps hk r1)
    have e2 : SeqAt.readOf h' v = pPy z := SeqAt.readOf_eq rfl hr
    have e4 : (p :: l)[i] = z := pPy_inj (e1.symm.trans e2)
    have hv' : its[i]? = some v := by simpa using hv
    have hxl : i < xs.length := by rw [rv.length]; exact (List.getElem?_eq_some_iff.mp hv').1
    obtain ⟨u, hu2, rx⟩ := rv.get (List.getElem?_eq_getElem hxl)
    cases hv'.symm.trans hu2
    have hx : xs[i]? = some xs[i] := List.getElem?_eq_getElem hxl
    exact ⟨xs[i], H, I.kept hk, rx, q i z xs[i] (by rw [List.getElem?_eq_getElem hi, e4]) hx h2⟩
/-- the sum of a tuple of numbers -/
def rSumT (K : PySem.W.Frag) : List V → Hp → VK → Prop := fun vs H Q => ∃ (a : Addr) (ns : List Int), vs = [.ref a] ∧ SqT K H a (ns.map V.int) ∧ Q (.int ns.sum) H
theorem cr_sumT (hc : X.calm = true) : CallR X (.builtin "sum") (rSumT X.K) := by
  intro pins s σ H vs us Q I r h
  obtain ⟨a, ns, rfl, hs, q⟩ := h
  obtain ⟨its, rv, ht, _⟩ := I.tuple hs
  rw [Vals.ref1 r]
  have iv := rv.ints
  cases iv.allInts.items with
  | intro xs e =>
    have hn : ns = xs.toList.map (·.1) := by rw [← nums_intItems, ← e]; exact iv.numsOf.symm
    rw [e] at ht
    refine PySem.W.ktm_sumG (I.ok.hd hc) ht fun h' tk t' hk => ⟨.int ns.sum, H, I.kept hk, ⟨t', ?_⟩, q⟩
    rw [preSum_eq, List.take_of_length_le (by simp), hn]
def rSumU (K : PySem.W.Frag) : List V → Hp → VK → Prop := fun vs H Q => rSum K vs H Q ∨ rSumT K vs H Q
theorem call_sumU (hc : X.calm = true) : CallR X (.builtin "sum") (rSumU X.K) := (cr_sum hc).or (cr_sumT hc)
end
end DW
set_option Elab.async false
set_option maxRecDepth 100000
set_option maxHeartbeats 4000000
set_option linter.all false
set_option autoImplicit false
namespace DW
variable [Tb]
open PySem L2

section
variable {K : PySem.W.Frag} {w : Option Addr} {S : Addr → Bool} {H H0 H1 H2 H' : Hp} {n m : Nat} {σ : St} {ds : List (Option D)} {ta tb te : TE} {tA tB : TA} {k : Kn}
theorem e_slT {tl th : TO} (h : WpE K w te ds n fun d n1 => ∃ l, d = .tup l ∧ WpO K w tl ds n1 fun lo n2 => WpO K w th ds n2 fun hi n3 => k (.tup (cutD l lo hi)) n3) : WpE K w (tSl (rSlU K) te tl th) ds n k := fun S H0 σ H Q re ok p =>
  h S H0 σ H _ re ok fun v H1 d n1 ⟨l, e, h1⟩ p1 ok1 r1 => by
    subst e
    refine h1 S H0 σ H1 _ (re.up ok p1) ok1 fun lo H2 n2 h2 p2 ok2 => h2 S H0 σ H2 _ ((re.up ok p1).up ok1 p2) ok2 fun hi H3 n3 h3 p3 ok3 => ?_
    have r3 := (r1.mono (ex_cut ok1 p2)).mono (ex_cut ok2 p3)
    cases r3 with
    | @tup aa xs _ hA xA =>
      have hl := xA.length
      refine .inr ⟨aa, xs, rfl, Evl.ex_t (cut_ex S H3) hA, fun hw => ?_, fun hw q hq => ?_⟩
      · have e : cutD l lo hi = l := by
          unfold cutD
          rw [← hl, hw.1, hw.2, List.drop_zero, Nat.sub_zero, hl, List.take_length]
        have h3' : k (D.tup (cutD l lo hi)) n3 := h3
        rw [e] at h3'
        exact p _ H3 _ n3 h3' ((p1.trans p2).trans p3) ok3 (.tup hA xA)
      · refine p _ _ _ n3 h3 (((p1.trans p2).trans p3).trans (Pres.new hq)) (ok3.new hq) (.tup (SqT.of (cut_new ok3 hq)) ?_)
        have := (((xA.drop (HT.sIx xs.length 0 lo)).take (HT.sIx xs.length xs.length hi - HT.sIx xs.length 0 lo)).mono (ex_cut ok3 (Pres.new (o := .tup (cutV xs lo hi)) hq)))
        unfold cutV cutD
        rw [← xA.length]; exact this

/-! ### built-in functions by data -/
abbrev RCT := List V → Hp → VK → Prop
def rLenU (K : PySem.W.Frag) : RCT := fun xs H Q => ∃ x n, xs = [x] ∧ LenV K x H n ∧ Q (.int n) H
theorem call_lenU {X : Cx} : CallR X (.builtin "len") (rLenU X.K) := call_len
theorem rc_lenL {l : List D} (hk : k (.int l.length) n) : RC K w (rLenU K) [.lst l] n k := fun S vs H Q r ok p => by
  cases r with
  | cons a b =>
    cases b
    cases a with
    | lst hA xA => exact ⟨_, _, rfl, .inl ⟨_, SqL.of (cut_some hA).2, xA.length.symm⟩, p _ H _ n hk Pres.refl ok (.int _)⟩
theorem rc_lenT {l : List D} (hk : k (.int l.length) n) : RC K w (rLenU K) [.tup l] n k := fun S vs H Q r ok p => by
  cases r with
  | cons a b =>
    cases b
    cases a with
    | tup hA xA => exact ⟨_, _, rfl, .inr ⟨_, Evl.ex_t (cut_ex S H) hA, xA.length.symm⟩, p _ H _ n hk Pres.refl ok (.int _)⟩
theorem rc_lenS {l : Str} (hz : l.length ≤ 100000) (hk : k (.int l.length) n) : RC K w (rLenU K) [.str l] n k := fun S vs H Q r ok p => by
  cases r with
  | cons a b => cases b; cases a; exact ⟨_, _, rfl, ⟨Evl.sz_of hz, rfl⟩, p _ H _ n hk Pres.refl ok (.int _)⟩
def rMax2 : RCT := fun xs H Q => ∃ i j, xs = [.int i, .int j] ∧ Q (.int (if j > i then j else i)) H
def rMin2 : RCT := fun xs H Q => ∃ i j, xs = [.int i, .int j] ∧ Q (.int (if j < i then j else i)) H
def rMaxU (K : PySem.W.Frag) : RCT := fun xs H Q => rMax2 xs H Q ∨ rMax K xs H Q
def rMinU (K : PySem.W.Frag) : RCT := fun xs H Q => rMin2 xs H Q ∨ rMin K xs H Q ∨ rMinP K xs H Q
theorem call_maxU {X : Cx} (hc : X.calm = true) : CallR X (.builtin "max") (rMaxU X.K) := (call_max2 hc).or (cr_max hc)
theorem call_minU {X : Cx} (hc : X.calm = true) (hu : X.A.units + 64 < cLine) : CallR X (.builtin "min") (rMinU X.K) := (call_min2 hc).or ((cr_min hc).or (cr_minP hc hu))
theorem rc_max2 {i j : Int} (hk : k (.int (max i j)) n) : RC K w (rMaxU K) [.int i, .int j] n k := fun S vs H Q r ok p => by
  cases r with
  | cons a b =>
    cases a
    cases b with
    | cons a b =>
      cases a; cases b
      refine .inl ⟨i, j, rfl, ?_⟩
      have e : (if j > i then j else i) = max i j := by split <;> omega
      rw [e]; exact p _ H _ n hk Pres.refl ok (.int _)
theorem rc_min2 {i j : Int} (hk : k (.int (min i j)) n) : RC K w (rMinU K) [.int i, .int j] n k := fun S vs H Q r ok p => by
  cases r with
  | cons a b =>
    cases a
    cases b with
    | cons a b =>
      cases a; cases b
      refine .inl ⟨i, j, rfl, ?_⟩
      have e : (if j < i then j else i) = min i j := by split <;> omega
      rw [e]; exact p _ H _ n hk Pres.refl ok (.int _)
theorem lst_ints {S : Addr → Bool} {v : V} {ns : List Int} (r : Rp K (cut S H) v (.lst (ns.map D.int))) : ∃ a, v = .ref a ∧ H a = some (.lst (ns.map V.int)) := by
  cases r with
  | lst hA xA => exact ⟨_, rfl, by rw [← xA.ints]; exact (cut_some hA).2⟩
theorem rc_maxL {ns : List Int} (h0 : 0 < ns.length) (hk : ∀ m, m ∈ ns → (∀ y, y ∈ ns → y ≤ m) → k (.int m) n) : RC K w (rMaxU K) [.lst (ns.map D.int)] n k := fun S vs H Q r ok p => by
  cases r with
  | cons a b =>
    cases b
    obtain ⟨c, rfl, hc⟩ := lst_ints a
    exact .inr ⟨c, ns, rfl, SqL.of hc, h0, fun m h1 h2 => p _ H _ n (hk m h1 h2) Pres.refl ok (.int _)⟩
theorem rc_minL {ns : List Int} (h0 : 0 < ns.length) (hk : ∀ m, m ∈ ns → (∀ y, y ∈ ns → m ≤ y) → k (.int m) n) : RC K w (rMinU K) [.lst (ns.map D.int)] n k := fun S vs H Q r ok p => by
  cases r with
  | cons a b =>
    cases b
    obtain ⟨c, rfl, hc⟩ := lst_ints a
    exact .inr (.inl ⟨c, ns, rfl, SqL.of hc, h0, fun m h1 h2 => p _ H _ n (hk m h1 h2) Pres.refl ok (.int _)⟩)
theorem rc_sum {ns : List Int} (hk : k (.int ns.sum) n) : RC K w (rSumU K) [.lst (ns.map D.int)] n k := fun S vs H Q r ok p => by
  cases r with
  | cons a b =>
    cases b
    obtain ⟨c, rfl, hc⟩ := lst_ints a
    exact .inl ⟨c, ns, rfl, SqL.of hc, p _ H _ n hk Pres.refl ok (.int _)⟩
theorem rc_sumT {ns : List Int} (hk : k (.int ns.sum) n) : RC K w (rSumU K) [.tup (ns.map D.int)] n k := fun S vs H Q r ok p => by
  cases r with
  | cons a b =>
    cases b
    cases a with
    | tup hT hx => exact .inr ⟨_, ns, rfl, by rw [← Rps.ints hx]; exact Evl.ex_t (cut_ex S H) hT, p _ H _ n hk Pres.refl ok (.int _)⟩
theorem rc_all {bs : List Bool} (hk : k (.bl (bs.all id)) n) : RC K w (rAll K) [.lst (bs.map D.bl)] n k := fun S vs H Q r ok p => by
  cases r with
  | cons a b =>
    cases b
    cases a with
    | lst hA xA => exact ⟨_, bs, rfl, SqL.of (by rw [← xA.bls]; exact (cut_some hA).2), p _ H _ n hk Pres.refl ok (.bl _)⟩
theorem rc_any {bs : List Bool} (hk : k (.bl (bs.any id)) n) : RC K w (rAny K) [.lst (bs.map D.bl)] n k := fun S vs H Q r ok p => by
  cases r with
  | cons a b =>
    cases b
    cases a with
    | lst hA xA => exact ⟨_, bs, rfl, SqL.of (by rw [← xA.bls]; exact (cut_some hA).2), p _ H _ n hk Pres.refl ok (.bl _)⟩
def rAbsU : RCT := fun xs H Q => ∃ i, xs = [.int i] ∧ Q (.int (if i < 0 then -i else i)) H
theorem call_absU {X : Cx} : CallR X (.builtin "abs") rAbsU := call_abs
theorem rc_abs {i : Int} (hk : k (.int (i.natAbs : Int)) n) : RC K w rAbsU [.int i] n k := fun S vs H Q r ok p => by
  cases r with
  | cons a b =>
    cases a; cases b
    refine ⟨i, rfl, ?_⟩
    have e : (if i < 0 then -i else i) = (i.natAbs : Int) := by split <;> omega
    rw [e]; exact p _ H _ n hk Pres.refl ok (.int _)
def rIntU : RCT := fun xs H Q => (∃ i, xs = [.int i] ∧ Q (.int i) H) ∨ ∃ k, xs = [.bl k] ∧ Q (.int (if k then 1 else 0)) H
theorem call_intU {X : Cx} : CallR X (.type "int") rIntU := call_int1
theorem rc_int {i : Int} (hk : k (.int i) n) : RC K w rIntU [.int i] n k := fun S vs H Q r ok p => by
  cases r with
  | cons a b => cases a; cases b; exact .inl ⟨i, rfl, p _ H _ n hk Pres.refl ok (.int _)⟩
theorem rc_intB {i : Bool} (hk : k (.int (if i then 1 else 0)) n) : RC K w rIntU [.bl i] n k := fun S vs H Q r ok p => by
  cases r with
  | cons a b => cases a; cases b; exact .inr ⟨i, rfl, p _ H _ n hk Pres.refl ok (.int _)⟩
def rListU (K : PySem.W.Frag) : RCT := fun xs H Q => (∃ p ys, xs = [.ref p] ∧ (SqL K H p ys ∨ SqT K H p ys) ∧ ∀ l, H l = none → Q (.ref l) (upd H l (.lst ys))) ∨
  ∃ (a : Addr) (kvs : List (Key × V)), xs = [.ref a] ∧ Rd H a (.dK kvs) ∧ ∀ p, H p = none → Q (.ref p) (upd H p (.lst (kvs.map fun kv => kV kv.1)))
theorem call_listU {X : Cx} (hc : X.calm = true) : CallR X (.type "list") (rListU X.K) := call_list_of.or (call_listD hc)
theorem rc_listL {l : List D} (hk : k (.lst l) n) : RC K w (rListU K) [.lst l] n k := fun S vs H Q r ok p => by
  cases r with
  | cons a b =>
    cases b
    cases a with
    | lst hA xA => exact .inl ⟨_, _, rfl, .inl (SqL.of (cut_some hA).2), fun q hq => p _ _ _ n hk (Pres.new hq) (ok.new hq) (.lst (cut_new ok hq) (xA.mono (ex_cut ok (Pres.new hq))))⟩
theorem rc_listT {l : List D} (hk : k (.lst l) n) : RC K w (rListU K) [.tup l] n k := fun S vs H Q r ok p => by
  cases r with
  | cons a b =>
    cases b
    cases a with
    | tup hA xA => exact .inl ⟨_, _, rfl, .inr (Evl.ex_t (cut_ex S H) hA), fun q hq => p _ _ _ n hk (Pres.new hq) (ok.new hq) (.lst (cut_new ok hq) (xA.mono (ex_cut ok (Pres.new hq))))⟩
def kD : Key → D
  | .inl i => .int i
  | .inr x => .str x
theorem rps_keys : ∀ ks : List Key, Rps K H (ks.map kV) (ks.map kD)
  | [] => .nil
  | .inl i :: r => .cons (.int i) (rps_keys r)
  | .inr i :: r => .cons (.str i) (rps_keys r)
theorem rc_listD {ks : List Key} {l : List D} (hk : k (.lst (ks.map kD)) n) : RC K w (rListU K) [.dk ks l] n k := fun S vs H Q r ok p => by
  cases r with
  | cons a b =>
    cases b
    cases a with
    | @dk aa _ xs _ hA hlen xA =>
      have e : ((ks.zip xs).map fun kv => kV kv.1) = ks.map kV := by
        have : ((ks.zip xs).map fun kv => kV kv.1) = ((ks.zip xs).map (·.1)).map kV := by rw [List.map_map]; rfl
        rw [this, List.map_fst_zip (by omega)]
      refine .inr ⟨aa, _, rfl, .inl (cut_some hA).2, fun q hq => ?_⟩
      rw [e]
      exact p _ _ _ n hk (Pres.new hq) (ok.new hq) (.lst (cut_new ok hq) (rps_keys ks))
def rTupU (K : PySem.W.Frag) : RCT := fun xs H Q => ∃ p ys, xs = [.ref p] ∧ ((SqL K H p ys ∧ ∀ l, H l = none → Q (.ref l) (upd H l (.tup ys))) ∨ (SqT K H p ys ∧ Q (.ref p) H))
theorem call_tupU {X : Cx} : CallR X (.type "tuple") (rTupU X.K) := call_tuple_of
theorem rc_tupL {l : List D} (hk : k (.tup l) n) : RC K w (rTupU K) [.lst l] n k := fun S vs H Q r ok p => by
  cases r with
  | cons a b =>
    cases b
    cases a with
    | lst hA xA => exact ⟨_, _, rfl, .inl ⟨SqL.of (cut_some hA).2, fun q hq => p _ _ _ n hk (Pres.new hq) (ok.new hq) (.tup (SqT.of (cut_new ok hq)) (xA.mono (ex_cut ok (Pres.new hq))))⟩⟩
theorem rc_tupT {l : List D} (hk : k (.tup l) n) : RC K w (rTupU K) [.tup l] n k := fun S vs H Q r ok p => by
  cases r with
  | cons a b =>
    cases b
    cases a with
    | tup hA xA => exact ⟨_, _, rfl, .inr ⟨Evl.ex_t (cut_ex S H) hA, p _ H _ n hk Pres.refl ok (.tup hA xA)⟩⟩
theorem rc_sorted {ns : List Int} (hk : ∀ ms : List Int, ms.Perm ns → ms.Pairwise (· ≤ ·) → k (.lst (ms.map D.int)) n) : RC K w (rSortedI K) [.lst (ns.map D.int)] n k := fun S vs H Q r ok p => by
  cases r with
  | cons a b =>
    cases b
    obtain ⟨c, rfl, hc⟩ := lst_ints a
    exact ⟨c, ns, rfl, SqL.of hc, fun ms q h1 h2 hq => p _ _ _ n (hk ms h1 h2) (Pres.new hq) (ok.new hq) (.lst (cut_new ok hq) (Rps.of_ints ms))⟩
/-- dict of a list of pairs -/
def rDictP (K : PySem.W.Frag) : RCT := fun xs H Q => ∃ (a : Addr) (ps : List Addr) (kvs : List (Key × V)), xs = [.ref a] ∧ SqL K H a (ps.map V.ref) ∧ Paired (fun p kv => SqT K H p [kV kv.1, kv.2]) ps kvs ∧ ∀ p, H p = none → Q (.ref p) (upd H p (.dK (mergeK [] kvs)))
theorem call_dictU {X : Cx} (hc : X.calm = true) : CallR X (.type "dict") (rDictP X.K) := call_dictP hc
theorem Rp.int_inv {v : V} {i : Int} (r : Rp K H v (.int i)) : v = .int i := by cases r; rfl
theorem Rp.bl_inv {v : V} {i : Bool} (r : Rp K H v (.bl i)) : v = .bl i := by cases r; rfl
theorem pairs_of {S : Addr → Bool} : ∀ {xs : List V} {is : List (Int × Bool)}, Rps K (cut S H) xs (is.map fun p => D.tup [.int p.1, .bl p.2]) →
    ∃ ps : List Addr, xs = ps.map V.ref ∧ Paired (fun p (kv : Key × V) => SqT K H p [kV kv.1, kv.2]) ps (is.map fun p => ((Sum.inl p.1 : Key), V.bl p.2))
  | _, [], .nil => ⟨[], rfl, .nil⟩
  | _, (i, b) :: r, .cons x y => by
    obtain ⟨ps, rfl, h⟩ := pairs_of (is := r) y
    cases x with
    | @tup aa zs _ hT hx =>
      have e : zs = [.int i, .bl b] := by
        cases hx with
        | cons a1 a2 =>
          cases a2 with
          | cons a3 a4 => cases a4; rw [a1.int_inv, a3.bl_inv]
      subst e
      exact ⟨aa :: ps, rfl, .cons (Evl.ex_t (cut_ex S H) hT) h⟩
def keysOf (is : List (Int × Bool)) : List (Key × V) := mergeK [] (is.map fun p => ((Sum.inl p.1 : Key), V.bl p.2))
theorem rps_raws : ∀ xs : List V, Rps K H xs (xs.map D.raw)
  | [] => .nil
  | x :: r => .cons (.raw x) (rps_raws r)
theorem rc_dict {is : List (Int × Bool)} (hk : k (.dk ((keysOf is).map (·.1)) (((keysOf is).map (·.2)).map D.raw)) n) : RC K w (rDictP K) [.lst (is.map fun p => D.tup [.int p.1, .bl p.2])] n k := fun S vs H Q r ok p => by
  cases r with
  | cons a b =>
    cases b
    cases a with
    | lst hA xA =>
      obtain ⟨ps, rfl, hp⟩ := pairs_of xA
      refine ⟨_, ps, _, rfl, SqL.of (cut_some hA).2, hp, fun q hq => p _ _ _ n hk (Pres.new hq) (ok.new hq) (.dk (xs := (keysOf is).map (·.2)) ?_ (by simp) (rps_raws _))⟩
      have e : ((keysOf is).map (·.1)).zip ((keysOf is).map (·.2)) = keysOf is := by
        induction keysOf is with
        | nil => rfl
        | cons x r ih => simp [ih]
      rw [e]
      exact cut_new ok hq
end
end DW
set_option Elab.async false
set_option maxRecDepth 100000
set_option maxHeartbeats 4000000
set_option linter.all false
set_option autoImplicit false
namespace DW
variable [Tb]
open PySem PySem.Spec PyProof.Rows L2

/-! ### a < b < c < d -/
def tChain3 (r1 r2 r3 : R2) (ta tb tc td : TE) : TE := fun σ H Q => ta σ H fun x H1 => tb σ H1 fun y H2 => r1 x y H2 fun z H3 => ∃ k, z = .bl k ∧
  (if k = true then tc σ H3 fun u H4 => r2 y u H4 fun z' H5 => ∃ k', z' = .bl k' ∧ (if k' = true then td σ H5 fun v H6 => r3 u v H6 Q else Q (.bl false) H5) else Q (.bl false) H3)
section
variable {X : Cx} {a b c d : Expr} {ta tb tc td : TE} {pos : Pos} {o1 o2 o3 : CmpOp} {r1 r2 r3 : R2}
theorem pe_chain3 (h1 : OpR X (compareOp o1) r1) (h2 : OpR X (compareOp o2) r2) (h3 : OpR X (compareOp o3) r3) (ha : PE X a ta) (hb : PE X b tb) (hc : PE X c tc) (hd : PE X d td)
    (hm : lastMarks [o1, o2, o3] [b, c, d] = false := by with_unfolding_all rfl) : PE X (.Compare a [o1, o2, o3] [b, c, d] pos) (tChain3 r1 r2 r3 ta tb tc td) := by
  constructor
  intro pins s σ H Q I h
  apply Compare_chain (hm := hm)
  refine thn (ha.run pins s σ H _ I h) fun v s1 ⟨x, H1, I1, q1, k1⟩ => chain_link ?_
  refine thn (hb.run pins s1 σ H1 _ I1 k1) fun u s2 ⟨y, H2, I2, q2, k2⟩ => ?_
  refine thn (h1 pins s2 σ H2 x y v u _ I2 q1 q2 k2) fun _ s3 ⟨_, H3, I3, q3, k, e, k3⟩ => ?_
  subst e; cases q3
  apply wpAny_truthy_bool
  by_cases e : k = true
  · subst e
    apply ite_tt
    apply chain_link
    refine thn (hc.run pins s3 σ H3 _ I3 k3) fun u' s4 ⟨y', H4, I4, q4, k4⟩ => ?_
    refine thn (h2 pins s4 σ H4 y y' u u' _ I4 q2 q4 k4) fun _ s5 ⟨_, H5, I5, q5, k', e, k5⟩ => ?_
    subst e; cases q5
    apply wpAny_truthy_bool
    by_cases e : k' = true
    · subst e
      apply ite_tt
      apply chain_last
      exact thn (hd.run pins s5 σ H5 _ I5 k5) fun v' s6 ⟨x', H6, I6, q6, k6⟩ => h3 pins s6 σ H6 y' x' u' v' Q I6 q4 q6 k6
    · obtain rfl : k' = false := by simpa using e
      exact ite_ff ⟨.bl false, H5, I5, rfl, k5⟩
  · obtain rfl : k = false := by simpa using e
    exact ite_ff ⟨.bl false, H3, I3, rfl, k3⟩
theorem pt_chain3 (h1 : OpR X (compareOp o1) r1) (h2 : OpR X (compareOp o2) r2) (h3 : OpR X (compareOp o3) r3) (ha : PE X a ta) (hb : PE X b tb) (hc : PE X c tc) (hd : PE X d td)
    (hm : lastMarks [o1, o2, o3] [b, c, d] = false := by with_unfolding_all rfl) : PT X (.Compare a [o1, o2, o3] [b, c, d] pos) (tTest (tChain3 r1 r2 r3 ta tb tc td)) := by
  constructor
  intro pins s σ H Q I h
  apply isTrue_chain (hm := hm)
  refine thn (ha.run pins s σ H _ I h) fun v s1 ⟨x, H1, I1, q1, k1⟩ => test_link ?_
  refine thn (hb.run pins s1 σ H1 _ I1 k1) fun u s2 ⟨y, H2, I2, q2, k2⟩ => ?_
  refine thn (h1 pins s2 σ H2 x y v u _ I2 q1 q2 k2) fun _ s3 ⟨_, H3, I3, q3, k, e, k3⟩ => ?_
  subst e; cases q3
  apply wpAny_truthy_bool
  by_cases e : k = true
  · subst e
    apply ite_tt
    apply test_link
    refine thn (hc.run pins s3 σ H3 _ I3 k3) fun u' s4 ⟨y', H4, I4, q4, k4⟩ => ?_
    refine thn (h2 pins s4 σ H4 y y' u u' _ I4 q2 q4 k4) fun _ s5 ⟨_, H5, I5, q5, k', e, k5⟩ => ?_
    subst e; cases q5
    apply wpAny_truthy_bool
    by_cases e : k' = true
    · subst e
      apply ite_tt
      apply test_last
      refine thn (hd.run pins s5 σ H5 _ I5 k5) fun v' s6 ⟨x', H6, I6, q6, k6⟩ => ?_
      refine thn (h3 pins s6 σ H6 y' x' u' v' _ I6 q4 q6 k6) fun _ s7 ⟨_, H7, I7, q7, k'', e, k7⟩ => ?_
      subst e; cases q7
      exact wpAny_truthy_bool ⟨H7, I7, k7⟩
    · obtain rfl : k' = false := by simpa using e
      obtain ⟨j, ej, k5⟩ := k5
      cases ej
      exact ite_ff ⟨H5, I5, k5⟩
  · obtain rfl : k = false := by simpa using e
    obtain ⟨j, ej, k3⟩ := k3
    cases ej
    exact ite_ff ⟨H3, I3, k3⟩
end
/-! ### f(k = v, ..), keywords alone -/
section
variable {X : Cx} {CX : CXT} {k : Nat} {f : Addr} {fd : FuncData} {ps ks : List Str} {sp : Sp} {E : XK} {x : Str} {kws : List Keyword} {p pos : Pos} {tk : TA} {g : List Value → List Value → List Value} {gV : List V → List V → List V}
theorem pe_callN0 (F : FnOk X.prog X.w X.K X.mg X.base CX k f fd ps sp) (hr : Room k X.A) (hg : Gl X x) (hm : X.mg x = some (.ref f)) (hk : PySem.W.keepIn X.K (.ref f) = true) (hb : KBn X.K fd ps 0 ks g gV) (hx : Passes CX X E) (hkw : PK X kws tk)
    (hall : (backToKw pos (keywordEach kws X.env)).all (·.1.isSome) = true := by rfl) (hks : (backToKw pos (keywordEach kws X.env)).filterMap (·.1) = ks := by rfl) (hdb : (x == ("__debug__" : Str)) = false := by decide)
    (hpl : ((backTo pos (starEach [] X.env)).any (·.1) || (backToKw pos (keywordEach kws X.env)).any (·.1.isNone)) = false := by rfl) :
    PE X (.Call (.Name x p) [] kws pos) (tCallN 0 ks.length sp gV E tNil tk) := by
  constructor
  intro pins s σ H Q I h
  apply wpAny_Call_Name_kw
  apply ld_glob I hg hm _ hdb
  apply PySem.W.callWith_KW0 (h₀ := X.base) I.ok.mod.kin hk hall _ hpl
  refine thn (hkw.run pos pins s σ H _ I h) fun ws s2 ⟨zs, H2, I2, rz, l1, l2, q2⟩ => ?_
  refine ⟨I2.kIn, ?_⟩
  rw [hks]
  exact run_fnN (us := []) (vs := []) F hr hb hx I2 .nil rz rfl l2 q2
end

/-! ### isinstance by data -/
section
variable {K : PySem.W.Frag} {w : Option Addr} {S : Addr → Bool} {H H0 H1 H2 H' : Hp} {n m : Nat} {σ : L2.St} {ds : List (Option D)} {ta tb tc td te : TE} {tA tB : TA} {k : Kn} {d e : D}
def tyD : D → Option String
  | .non => some "NoneType"
  | .bl _ => some "bool"
  | .int _ => some "int"
  | .str _ => some "str"
  | .lst _ => some "list"
  | .tup _ => some "tuple"
  | _ => none
structure ObT (K : PySem.W.Frag) (C : Addr) : Prop where
  cl : Cls K C
  ha : PySem.W.findIn K (.ref C) "__class__" = some (some (.builtin "object.__class__"))
  hn : PySem.W.specialIn K (.builtin "object.__class__") "__get__" = some (some (.builtin "getset_descriptor.__get__"))
  htk : PySem.W.takesIn K (.builtin "object.__class__") = some true
  hm : PySem.W.mroIn K C (.type "object") = some true
theorem rp_ty {v : V} {T : String} (r : Rp K (cut S H) v d) (h : tyD d = some T) : TyX K H v (.type T) := by
  cases r with
  | non => cases h; exact .base .non
  | bl b => cases h; exact .base (.bl b)
  | int b => cases h; exact .base (.int b)
  | str b => cases h; exact .base (.str b)
  | lst hA xA => cases h; exact .base (.lst (cut_some hA).2)
  | tup hT xA =>
    cases h
    rcases Evl.ex_t (cut_ex S H) hT with (z | ⟨o, z⟩) | ⟨o, its, n, z, c, _⟩
    · exact .base (.tup z)
    · exact .fTuple z
    · exact .kTuple z c
  | obj _ _ _ => cases h
  | raw _ => cases h
  | dk _ _ _ => cases h
  | fn _ _ _ => cases h
theorem rp_tyO {v : V} {C : Addr} {ns : List Str} {l : List D} (o : ObT K C) (r : Rp K (cut S H) v (.obj C ns l)) : TyX K H v (.ref C) := by
  cases r with
  | obj hO hl hx => exact .base (.ins (cut_some hO).2 o.cl o.ha o.hn o.htk o.hm)
def rIsiU (K : PySem.W.Frag) : RCT := fun xs H Q => rIsi K xs H Q ∨ rIsiT K xs H Q
theorem call_isiU {X : Cx} : CallR X (.builtin "isinstance") (rIsiU X.K) := call_isi.or call_isiT
theorem isi_go {c : V} {u t : Value} {b : Bool} (hc : ClsV c u) (ht : ∀ (S : Addr → Bool) (H : Hp) (v : V), Rp K (cut S H) v d → TyX K H v t) (hk2 : PySem.W.kitOne K t u = some b) (hk : k (.bl b) n) : RC K w (rIsiU K) [d, .raw c] n k := fun S vs H Q r ok p => by
  cases r with
  | cons a b' =>
    cases b' with
    | cons a' b' => cases b'; cases a'; exact .inl ⟨_, _, t, u, b, rfl, hc, ht S H _ a, hk2, p _ H _ n hk Pres.refl ok (.bl _)⟩
/-- a plain value, a built-in class -/
theorem isi_bb {T U : String} {b : Bool} (h1 : tyD d = some T) (h2 : kitB T U = some b) (hk : k (.bl b) n) : RC K w (rIsiU K) [d, .raw (.ty U)] n k := isi_go (.ty U) (fun S H v r => rp_ty r h1) (kit_ty h2) hk
theorem isi_bo {T : String} {C : Addr} {b : Bool} (h1 : tyD d = some T) (h2 : PySem.W.kitOne K (.type T) (.ref C) = some b) (hk : k (.bl b) n) : RC K w (rIsiU K) [d, .raw (.ref C)] n k := isi_go (.own C) (fun S H v r => rp_ty r h1) h2 hk
theorem isi_ob {C : Addr} {ns : List Str} {l : List D} {U : String} {b : Bool} (o : ObT K C) (h2 : PySem.W.kitOne K (.ref C) (.type U) = some b) (hk : k (.bl b) n) : RC K w (rIsiU K) [.obj C ns l, .raw (.ty U)] n k := isi_go (.ty U) (fun S H v r => rp_tyO o r) h2 hk
theorem isi_oo {C C' : Addr} {ns : List Str} {l : List D} {b : Bool} (o : ObT K C) (h2 : PySem.W.kitOne K (.ref C) (.ref C') = some b) (hk : k (.bl b) n) : RC K w (rIsiU K) [.obj C ns l, .raw (.ref C')] n k := isi_go (.own C') (fun S H v r => rp_tyO o r) h2 hk
theorem tup2_inv {H : Hp} {v : V} {a b : V} (r : Rp K (cut S H) v (.tup [.raw a, .raw b])) : ∃ p, v = .ref p ∧ SqT K H p [a, b] := by
  cases r with
  | @tup p xs _ hT hx =>
    cases hx with
    | cons h1 h2 =>
      cases h2 with
      | cons h3 h4 => cases h4; cases h1; cases h3; exact ⟨p, rfl, Evl.ex_t (cut_ex S H) hT⟩
/-- isinstance(x, (A, B)), the pair written there: its reading -/
def tIsi2 (K : PySem.W.Frag) (te : TE) (a b : V) : TE := tCB (rIsiT K) (tCons te (tCons (tTup (tCons (tC a) (tCons (tC b) tNil))) tNil))
theorem e_isi2 {t : D → Value} {u1 u2 : Value} {a b : V} (h1 : ClsV a u1) (h2 : ClsV b u2)
    (h : WpE K w te ds n fun d n1 => ∃ t r, (∀ (S : Addr → Bool) (H : Hp) (v : V), Rp K (cut S H) v d → TyX K H v t) ∧ PySem.W.kitAny K t [u1, u2] = some r ∧ k (.bl r) n1) : WpE K w (tIsi2 K te a b) ds n k := fun S H0 σ H Q re ok p =>
  h S H0 σ H _ re ok fun v H1 d n1 ⟨t, r, ht, hr, hk⟩ p1 ok1 r1 => by
    refine ⟨by show 2 ≤ sizeLine; decide, fun q hq => ?_⟩
    have ex := ex_cut ok1 (Pres.new (w := w) (o := .tup [a, b]) hq)
    exact ⟨v, q, [a, b], t, [u1, u2], r, rfl, upd_same, .cons h1 (.cons h2 .nil), ht S _ v (r1.mono ex), hr, p _ _ _ n1 hk (p1.trans (Pres.new hq)) (ok1.new hq) (.bl r)⟩
/-! ### deep == -/
mutual
def toPy : D → PyData
  | .non => .none
  | .bl b => .bool b
  | .int i => .int i
  | .str x => .str x
  | .lst l => .list (toPys l)
  | .tup l => .tuple (toPys l)
  | .obj _ _ _ => .none
  | .raw _ => .none
  | .own _ => .none
  | .dk _ _ => .none
  | .fn _ _ _ => .none
def toPys : List D → List PyData
  | [] => []
  | d :: r => toPy d :: toPys r
end
mutual
def pureD : D → Bool
  | .non => true
  | .bl _ => true
  | .int _ => true
  | .str _ => true
  | .lst l => pureDs l
  | .tup l => pureDs l
  | .obj _ _ _ => false
  | .raw _ => false
  | .own _ => false
  | .dk _ _ => false
  | .fn _ _ _ => false
def pureDs : List D → Bool
  | [] => true
  | d :: r => pureD d && pureDs r
end
mutual
theorem Rp.dp : ∀ {v : V} {d : D}, Rp K (cut S H) v d → pureD d = true → Dp K H v (toPy d)
  | _, _, .non, _ => by unfold toPy; exact .non
  | _, _, .bl b, _ => by unfold toPy; exact .bl b
  | _, _, .int b, _ => by unfold toPy; exact .int b
  | _, _, .str b, _ => by unfold toPy; exact .str b
  | _, _, .lst hA xA, h => by
    unfold toPy
    unfold pureD at h
    exact .lst (SqL.of (cut_some hA).2) (Rps.dp xA h)
  | _, _, .tup hT xA, h => by
    unfold toPy
    unfold pureD at h
    exact .tup (Evl.ex_t (cut_ex S H) hT) (Rps.dp xA h)
  | _, _, .obj _ _ _, h => by unfold pureD at h; cases h
  | _, _, .raw _, h => by unfold pureD at h; cases h
  | _, _, .dk _ _ _, h => by unfold pureD at h; cases h
  | _, _, .fn _ _ _, h => by unfold pureD at h; cases h
theorem Rps.dp : ∀ {vs : List V} {l : List D}, Rps K (cut S H) vs l → pureDs l = true → DpAll K H vs (toPys l)
  | _, _, .nil, _ => by unfold toPys; exact .nil
  | _, _, .cons a b, h => by
    unfold pureDs at h
    rw [Bool.and_eq_true] at h
    unfold toPys
    exact .cons (Rp.dp a h.1) (Rps.dp b h.2)
end
theorem rd_eqD (h1 : pureD d = true) (h2 : pureD e = true) (s1 : SeqAt.shaped (toPy d) = true) (s2 : SeqAt.shaped (toPy e) = true) (hk : k (.bl (PyData.eqv (toPy d) (toPy e))) n) : RD K w (rEqU K) d e n k := fun S v u H Q a b ok p =>
  .inr (.inl ⟨_, _, a.dp h1, b.dp h2, s1, s2, p _ H _ n hk Pres.refl ok (.bl _)⟩)
theorem rd_neD (h1 : pureD d = true) (h2 : pureD e = true) (s1 : SeqAt.shaped (toPy d) = true) (s2 : SeqAt.shaped (toPy e) = true) (hk : k (.bl (!PyData.eqv (toPy d) (toPy e))) n) : RD K w (rNeU K) d e n k := fun S v u H Q a b ok p =>
  .inr (.inl ⟨_, _, a.dp h1, b.dp h2, s1, s2, p _ H _ n hk Pres.refl ok (.bl _)⟩)
/-- a list beside an empty one -/
theorem rps_isEmpty {H : Hp} : ∀ {xs : List V} {l : List D}, Rps K H xs l → xs.isEmpty = l.isEmpty
  | _, _, .nil => rfl
  | _, _, .cons _ _ => rfl
theorem rd_eqE {l : List D} (hk : k (.bl l.isEmpty) n) : RD K w (rEqU K) (.lst l) (.lst []) n k := fun S v u H Q a b ok p => by
  cases a with
  | lst hL hx =>
    cases b with
    | lst hM hy =>
      cases hy
      refine .inr (.inr ⟨_, _, _, rfl, rfl, SqL.of (cut_some hL).2, SqL.of (cut_some hM).2, ?_⟩)
      rw [rps_isEmpty hx]
      exact p _ H _ n hk Pres.refl ok (.bl _)
theorem rd_neE {l : List D} (hk : k (.bl (!l.isEmpty)) n) : RD K w (rNeU K) (.lst l) (.lst []) n k := fun S v u H Q a b ok p => by
  cases a with
  | lst hL hx =>
    cases b with
    | lst hM hy =>
      cases hy
      refine .inr (.inr ⟨_, _, _, rfl, rfl, SqL.of (cut_some hL).2, SqL.of (cut_some hM).2, ?_⟩)
      rw [rps_isEmpty hx]
      exact p _ H _ n hk Pres.refl ok (.bl _)
/-! ### repr of lists and tuples -/
def rReprU (K : PySem.W.Frag) : RCT := fun xs H Q => ∃ (a : Addr) (d : PyData), xs = [.ref a] ∧ Dp K H (.ref a) d ∧ d.showable = true ∧ d.hasDict = false ∧ d.depth ≤ 60 ∧ d.shown.length ≤ sizeLine ∧ Q (.str d.shown) H
theorem call_reprU {X : Cx} (hg : X.A.guards = some []) (hu : X.A.units + 64 < cLine) : CallR X (.builtin "repr") (rReprU X.K) := by
  intro pins s σ H xs us Q I r h
  obtain ⟨a, d, rfl, hd, h1, h2, h3, h4, q⟩ := h
  cases r with
  | cons ra rb =>
    cases rb
    have ea := ra
    cases ra
    obtain ⟨as, hr⟩ := Dp.reads I d (.ref a) _ hd ea
    refine repr_of_reads' hr h1 (fun z => ?_) hg (by omega) (fun _ _ z => z) (fun h' u tk hk => ?_) h4
    · rw [h2] at z; cases z
    · exact ⟨.str d.shown, H, I.kept (t' := tk) hk, ⟨_, rfl⟩, q⟩
theorem rc_reprL {l : List D} (h1 : pureDs l = true) (h2 : (toPy (.lst l)).showable = true) (h3 : (toPy (.lst l)).hasDict = false) (h4 : (toPy (.lst l)).depth ≤ 60) (h5 : (toPy (.lst l)).shown.length ≤ sizeLine) (hk : k (.str (toPy (.lst l)).shown) n) :
    RC K w (rReprU K) [.lst l] n k := fun S vs H Q r ok p => by
  cases r with
  | cons a b =>
    cases b
    have hd := a.dp (by unfold pureD; exact h1)
    cases a
    exact ⟨_, _, rfl, hd, h2, h3, h4, h5, p _ H _ n hk Pres.refl ok (.str _)⟩
/-! ### chains of comparisons by data -/
theorem e_chain {r r' : R2} (h : WpE K w ta ds n fun d1 n1 => WpE K w tb ds n1 fun d2 n2 => RD K w r d1 d2 n2 fun z n3 => ∃ b, z = .bl b ∧
      (b = true → WpE K w tc ds n3 fun d3 n4 => RD K w r' d2 d3 n4 k) ∧ (b = false → k (.bl false) n3)) : WpE K w (tChain r r' ta tb tc) ds n k := fun S H0 σ H Q re ok p =>
  h S H0 σ H _ re ok fun v H1 d1 n1 h1 p1 ok1 r1 => h1 S H0 σ H1 _ (re.up ok p1) ok1 fun u H2 d2 n2 h2 p2 ok2 r2 => by
    have re2 := (re.up ok p1).up ok1 p2
    refine h2 S v u H2 _ (r1.mono (ex_cut ok1 p2)) r2 ok2 fun z H3 dz n3 ⟨b, e, hb1, hb2⟩ p3 ok3 r3 => ?_
    subst e
    cases r3
    refine ⟨b, rfl, ?_⟩
    cases b with
    | false => exact p _ H3 _ n3 (hb2 rfl) ((p1.trans p2).trans p3) ok3 (.bl false)
    | true =>
      refine hb1 rfl S H0 σ H3 _ (re2.up ok2 p3) ok3 fun y H4 d3 n4 h4 p4 ok4 r4 => ?_
      exact h4 S u y H4 Q (r2.mono ((ex_cut ok2 p3).trans (ex_cut ok3 p4))) r4 ok4 (p.from (((p1.trans p2).trans p3).trans p4))
theorem e_chain3 {r r' r'' : R2} (h : WpE K w ta ds n fun d1 n1 => WpE K w tb ds n1 fun d2 n2 => RD K w r d1 d2 n2 fun z n3 => ∃ b, z = .bl b ∧
      (b = true → WpE K w tc ds n3 fun d3 n4 => RD K w r' d2 d3 n4 fun z' n5 => ∃ b', z' = .bl b' ∧ (b' = true → WpE K w td ds n5 fun d4 n6 => RD K w r'' d3 d4 n6 k) ∧ (b' = false → k (.bl false) n5)) ∧ (b = false → k (.bl false) n3)) :
    WpE K w (tChain3 r r' r'' ta tb tc td) ds n k := fun S H0 σ H Q re ok p =>
  h S H0 σ H _ re ok fun v H1 d1 n1 h1 p1 ok1 r1 => h1 S H0 σ H1 _ (re.up ok p1) ok1 fun u H2 d2 n2 h2 p2 ok2 r2 => by
    have re2 := (re.up ok p1).up ok1 p2
    refine h2 S v u H2 _ (r1.mono (ex_cut ok1 p2)) r2 ok2 fun z H3 dz n3 ⟨b, e, hb1, hb2⟩ p3 ok3 r3 => ?_
    subst e
    cases r3
    refine ⟨b, rfl, ?_⟩
    have p123 := (p1.trans p2).trans p3
    cases b with
    | false => exact p _ H3 _ n3 (hb2 rfl) p123 ok3 (.bl false)
    | true =>
      refine hb1 rfl S H0 σ H3 _ (re2.up ok2 p3) ok3 fun y H4 d3 n4 h4 p4 ok4 r4 => ?_
      refine h4 S u y H4 _ (r2.mono ((ex_cut ok2 p3).trans (ex_cut ok3 p4))) r4 ok4 fun z' H5 dz' n5 ⟨b', e', hc1, hc2⟩ p5 ok5 r5 => ?_
      subst e'
      cases r5
      refine ⟨b', rfl, ?_⟩
      cases b' with
      | false => exact p _ H5 _ n5 (hc2 rfl) ((p123.trans p4).trans p5) ok5 (.bl false)
      | true =>
        refine hc1 rfl S H0 σ H5 _ (((re2.up ok2 p3).up ok3 p4).up ok4 p5) ok5 fun y' H6 d4 n6 h6 p6 ok6 r6 => ?_
        exact h6 S y y' H6 Q (r4.mono ((ex_cut ok4 p5).trans (ex_cut ok5 p6))) r6 ok6 (p.from (((p123.trans p4).trans p5).trans p6))
/-! ### in, not in, over flat values -/
def flatD : D → Bool
  | .non => true
  | .bl _ => true
  | .int _ => true
  | .str _ => true
  | _ => false
def vD : D → V
  | .non => .non
  | .bl b => .bl b
  | .int i => .int i
  | .str x => .str x
  | _ => .non
theorem rp_flat {v : V} (r : Rp K H v d) (h : flatD d = true) : v = vD d ∧ flatV v = true := by cases r <;> first | exact ⟨rfl, rfl⟩ | cases h
theorem rps_flat : ∀ {vs : List V} {l : List D}, Rps K H vs l → l.all flatD = true → vs = l.map vD ∧ vs.all flatV = true
  | _, _, .nil, _ => ⟨rfl, rfl⟩
  | _, _, .cons a b, h => by
    rw [List.all_cons, Bool.and_eq_true] at h
    obtain ⟨e1, f1⟩ := rp_flat a h.1
    obtain ⟨e2, f2⟩ := rps_flat b h.2
    exact ⟨by rw [e1, e2]; rfl, by rw [List.all_cons, f1, f2]; rfl⟩
theorem rd_inL {l : List D} {neg : Bool} (h1 : flatD d = true) (h2 : l.all flatD = true) (hk : k (.bl (if neg then !inV (vD d) (l.map vD) else inV (vD d) (l.map vD))) n) : RD K w (rIn K neg) d (.lst l) n k := fun S v u H Q a b ok p => by
  obtain ⟨e1, f1⟩ := rp_flat a h1
  cases b with
  | lst hA xA =>
    obtain ⟨e2, f2⟩ := rps_flat xA h2
    exact ⟨_, _, rfl, .inl (SqL.of (cut_some hA).2), f1, f2, by rw [e1, e2]; exact p _ H _ n hk Pres.refl ok (.bl _)⟩
theorem rd_inT {l : List D} {neg : Bool} (h1 : flatD d = true) (h2 : l.all flatD = true) (hk : k (.bl (if neg then !inV (vD d) (l.map vD) else inV (vD d) (l.map vD))) n) : RD K w (rIn K neg) d (.tup l) n k := fun S v u H Q a b ok p => by
  obtain ⟨e1, f1⟩ := rp_flat a h1
  cases b with
  | tup hA xA =>
    obtain ⟨e2, f2⟩ := rps_flat xA h2
    exact ⟨_, _, rfl, .inr (Evl.ex_t (cut_ex S H) hA), f1, f2, by rw [e1, e2]; exact p _ H _ n hk Pres.refl ok (.bl _)⟩
/-! ### truth of any value -/
def tTruU (K : PySem.W.Frag) (ta : TE) : TT := fun σ H Q => ta σ H fun x H' => ∃ k, TruV K x H' k ∧ Q k H'
/-! ### list(range(..)) -/
theorem e_lstRg1 (h : WpE K w ta ds n fun d n1 => ∃ j : Int, d = .int j ∧ (-(2 ^ 62) ≤ j ∧ j ≤ 100000) ∧ k (.lst (rgD 0 j.toNat)) n1) : WpE K w (tLstRg (tRg1 ta)) ds n k := fun S H0 σ H Q re ok p =>
  h S H0 σ H _ re ok fun v H1 d n1 ⟨j, e, hj, hk⟩ p1 ok1 r1 => by
    subst e
    cases r1
    refine ⟨j, rfl, ⟨by omega, by omega, hj.1, by omega, by omega⟩, fun q hq => p _ _ _ n1 hk (p1.trans (Pres.new hq)) (ok1.new hq) (.lst (xs := rgV 0 j) (cut_new ok1 hq) ?_)⟩
    have e : rgV 0 j = ((List.range j.toNat).map fun i => (0 : Int) + (i : Nat)).map V.int := by unfold rgV; rw [List.map_map, Int.sub_zero]; rfl
    have e' : rgD 0 j.toNat = ((List.range j.toNat).map fun i => (0 : Int) + (i : Nat)).map D.int := by unfold rgD; rw [List.map_map]; rfl
    rw [e, e']; exact Rps.of_ints _
theorem e_lstRg2 (h : WpE K w ta ds n fun d n1 => WpE K w tb ds n1 fun d' n2 => ∃ i j : Int, d = .int i ∧ d' = .int j ∧ (-(2 ^ 61) ≤ i ∧ i < 2 ^ 61 ∧ -(2 ^ 61) ≤ j ∧ j ≤ i + 100000) ∧ k (.lst (rgD i (j - i).toNat)) n2) : WpE K w (tLstRg (tRg2 ta tb)) ds n k := fun S H0 σ H Q re ok p =>
  h S H0 σ H _ re ok fun v H1 d n1 h1 p1 ok1 r1 => h1 S H0 σ H1 _ (re.up ok p1) ok1 fun u H2 d' n2 ⟨i, j, e, e', hj, hk⟩ p2 ok2 r2 => by
    subst e e'
    cases r1; cases r2
    refine ⟨i, j, rfl, rfl, ⟨by omega, by omega, by omega, by omega, by omega⟩, fun q hq => p _ _ _ n2 hk ((p1.trans p2).trans (Pres.new hq)) (ok2.new hq) (.lst (xs := rgV i j) (cut_new ok2 hq) ?_)⟩
    have e : rgV i j = ((List.range (j - i).toNat).map fun m => i + (m : Nat)).map V.int := by unfold rgV; rw [List.map_map]; rfl
    have e' : rgD i (j - i).toNat = ((List.range (j - i).toNat).map fun m => i + (m : Nat)).map D.int := by unfold rgD; rw [List.map_map]; rfl
    rw [e, e']; exact Rps.of_ints _
end
end DW
set_option Elab.async false
set_option maxRecDepth 100000
set_option maxHeartbeats 4000000
set_option linter.all false
set_option autoImplicit false
/-! super().__init__(..) of a class of the text -/
namespace DW
variable [Tb]
open PySem PySem.Spec PyProof.Rows L2 NdefX

/-- super().m within a method of D, for an instance of C: the def at f2 -/
structure SupAt (K : PySem.W.Frag) (D C f2 : Addr) (m : Str) : Prop where
  sub : PySem.W.mroIn K C (.ref D) = some true
  at_ : PySem.W.ks_superIn K C D m = some (some (.ref f2))
/-- what of the text a def with super() must have -/
structure SupFn (K : PySem.W.Frag) (P : Program) (D cc cda f2 : Addr) : Prop where
  dc : ∃ cd, PySem.W.clsIn K D = some cd
  code : ∃ ccl cdd vs ccs file tf, K.lookup cda = some ⟨ccl, cdd, .fields vs, ccs⟩ ∧ vs[2]? = some (.str file tf) ∧ ((P.main.file : Str) == file) = true
  cell : ∃ cl cld csl, K.lookup cc = some ⟨cl, cld, .cell (some (.ref D)), csl⟩
  op : PySem.W.nsIn K cStatics "thirdparty.any" = some none
  ty : PySem.W.typeIn K (.ref f2) = some (.type "function")
  fi : PySem.W.fnIn K f2 = true
  top : (P.main.scope.names.lookup ("super" : Str)).isSome = false
section
variable {X : Cx} {pins : List (Addr × Obj)} {σ : L2.St} {H : Hp} {s : Shared}
/-- the record of a bound method, laid -/
theorem bound_new {g x : Addr} (I : Inv X pins σ H s) : Inv X ((s.heap.objs.size, PySem.W.methodObj (.ref g) (.ref x)) :: pins) σ H { s with heap := s.heap.push (PySem.W.methodObj (.ref g) (.ref x)), toks := s.toks + 1 } :=
  ClX.pin_new I (fun _ _ z => Heap.get?_push_of_some _ z) (Nat.le_refl _) (Heap.get?_push_size s.heap rfl) (fun v z => nomatch z)
theorem super_stmt {CX : CXT} {k : Nat} {sp : Sp} {E : XK} {D C f f2 cc cda x dx : Addr} {q : Str} {scope : Scope} {L : Addr} {body : List Stmt} {p0 p1 apos pos pos2 : Pos} {m : Str} {e : Expr} {es : List Expr} {t : TA} {oc : Value} {od : Option Addr} {osl : Array (Option Value)} {fd : FuncData} {ar : Arg} {fs : List (Str × V)} {Q : Hp → Prop} {pl : Sem Bool}
    (he : X.env = PySem.W.ksEnv q scope L f (.ref cda) cc) (S : SupFn X.K X.prog D cc cda f2) (A : SupAt X.K D C f2 m) (hf : X.K.lookup f = some ⟨oc, od, .func fd, osl⟩) (hp : (fd.params.posonlyargs ++ fd.params.args).head? = some ar)
    (hself : X.N[0]? = some ar.arg) (hx0 : σ[0]? = some (some (.ref x))) (hH : H x = some (.ins C dx fs)) (hm : X.mg "super" = none)
    (hks : scope.names.lookup ("super" : Str) = some .globalImplicit) (hkc : scope.names.lookup ("__class__" : Str) = some .free) (hka : scope.names.lookup ar.arg = some .local)
    (F : FnR X.prog X.w X.K X.mg X.base CX k f2 sp) (hr : Room k X.A) (hps : Passes CX X E) (ha : PA X (e :: es) t) (I : Inv X pins σ H s) (h : t σ H fun ws H1 => sp (.ref x :: ws) H1 (fun _ H2 => Q H2) E)
    (hn : (m == ("__class__" : Str)) = false := by decide)
    (hst : starEach (e :: es) X.env = (false, eval e X.env) :: starEach es X.env := by rfl) (hpl : (backTo pos (starEach es X.env)).any (·.1) = false := by rfl)
    (hev : eval (.Call (.Attribute (.Call (.Name "super" p0) [] [] p1) m apos) (e :: es) [] pos) X.env = (do
      let ov ← attributeBase (.Call (.Name "super" p0) [] [] p1) m X.env (eval (.Call (.Name "super" p0) [] [] p1) X.env)
      standAt apos.atName
      let (f, first) ← holding [ov] (getMethod ov m pl)
      callWith pos f first (backTo pos (starEach (e :: es) X.env)) []) := by rfl) :
    _root_.PySem.wpAt (model X.prog X.w) X.A (.func body X.env) (exec (.Expr (.Call (.Attribute (.Call (.Name "super" p0) [] [] p1) m apos) (e :: es) [] pos) pos2) X.env)
      (fun fl s' => fl = .next ∧ ∃ H', Inv X pins σ H' s' ∧ Q H') X.xe s := by
  obtain ⟨cdD, hD⟩ := S.dc
  obtain ⟨ccl, cdd, vs, ccs, file, tf, hcode, hvs, hfile⟩ := S.code
  obtain ⟨cl, cld, csl, hcell⟩ := S.cell
  obtain ⟨mA, O, -⟩ := ins_get I.hok hH
  obtain ⟨od', J, -⟩ := O.look
  have KX := I.kIn
  obtain ⟨oD, hD1, hD2⟩ : ∃ oD, s.heap.get? D = some oD ∧ oD.data = .cls cdD := by
    unfold PySem.W.clsIn at hD
    split at hD
    · rename_i c d cd' sl ho
      cases hD
      exact ⟨_, KX _ _ ho, rfl⟩
    · cases hD
  obtain ⟨cdC, hC⟩ : ∃ cdC, PySem.W.clsIn X.K C = some cdC := by
    have a := A.at_
    unfold PySem.W.ks_superIn at a
    cases z : PySem.W.clsIn X.K C with
    | none => rw [z] at a; cases a
    | some cd => exact ⟨cd, rfl⟩
  have hal := A.at_
  unfold PySem.W.ks_superIn at hal
  rw [hC] at hal
  obtain ⟨of, hof, hofc⟩ : ∃ of, X.K.lookup f2 = some of ∧ of.cls = .type "function" := by
    have ht' : (X.K.lookup f2).map (·.cls) = some (.type "function") := S.ty
    cases z : X.K.lookup f2 with
    | none => rw [z] at ht'; cases ht'
    | some of => rw [z] at ht'; exact ⟨of, rfl, Option.some.inj ht'⟩
  obtain ⟨mb, hb1, hb2⟩ := I.mod.blt
  have hk : X.env.scope.kind = .function := I.ok.kind
  have kS : X.env.kindOf "super" = some .globalImplicit := by rw [he]; exact hks
  have kC : X.env.kindOf "__class__" = some .free := by rw [he]; exact hkc
  have kA : X.env.kindOf ar.arg = some .local := by rw [he]; exact hka
  have xC : x ≠ C := PySem.W.ks_ne KX J hC
  refine ks_wpAt_Expr_any ?_ (by unfold interactive; simp [hk]) (by rfl)
  refine ks_wpAt_MethodCall (pl := pl) ?_ hev
  refine ks_wpAt_super_base kS kC hn (f := f) (by rw [he]) (KX _ _ hf) rfl hp (cc := cda) (by rw [he]) (KX _ _ hcode) rfl hvs hfile S.top ?_
  refine PySem.W.ks_loadName_global hk kS (Calls.loadGlobal_builtin (by rw [I.ok.glob]; exact I.mod.glob.keeps I.bk) hm (by rw [I.ok.blt]; exact hb1.keeps I.bk) ((hb2 "super" (by decide)).trans (show bootBuiltins "super" = some (.type "super") from by rfl)) ⟨rfl, ?_⟩)
  refine wpAny_loadName_free hk kC (c := cc) (by rw [he]; rfl) ⟨_, KX _ _ hcell, rfl⟩ ?_
  obtain ⟨mm, hns, hlk⟩ := I.loc
  obtain ⟨u, ru, hl⟩ := hlk 0 ar.arg (.ref x) hself hx0 (.inl (by rw [he]; exact hka))
  obtain rfl : u = Value.ref x := ru
  have hv : mm ar.arg = some (.ref x) := by
    rcases hl with ⟨_, z⟩ | ⟨z, _⟩
    · exact z
    · rw [kA] at z
      rcases z with z | z <;> cases z
  refine wpAny_loadName_local hk kA hns hv ?_
  refine ks_wpAny_isType_cls hD1 hD2 ⟨rfl, ?_⟩
  refine ks_wpAny_call_super hD1 hD2 J.at_ J.cls (fun c z => ?_) (PySem.W.looks_mroIn KX A.sub) (fun h' e0 kp => ?_)
  · have := J.no
    unfold PySem.W.notCls at this
    rw [z] at this
    exact Bool.noConfusion this
  have I1 : Inv X pins σ H { s with heap := h', toks := s.toks } := I.kept kp
  have KX1 := I1.kIn
  refine ks_wpAny_getMethod_super (l₀ := cdC.mro) e0 (PySem.W.looks_opaque KX1 S.op) ?_ rfl KX1 hal (KX1 _ _ hof) hofc xC hn ?_
  · exact fun A Q E s k q => wpAny_bind ((PySem.W.looks_clsIn KX1 hC) A _ E s k (wpAny_pure q))
  have I2 := bound_new (g := f2) (x := x) I1
  refine ClX.callwith_cm (C := x) (g := f2) I2 (ClX.base_none I1 (Nat.le_refl _)) S.fi ?_ hst hpl
  refine thn (ha.run pos _ _ σ H _ I2 h) fun us s3 ⟨ws, H1, I3, rv, q3⟩ => ?_
  have hq := ClX.pin_at I3
  refine ⟨⟨hq, I3.kIn⟩, ?_⟩
  refine thn (ClX.run_cm (C := x) (g := f2) F hr hps I3 rv q3) fun v s4 ⟨v', H4, I4, rv4, q4⟩ => ?_
  exact ⟨rfl, H4, I4, q4⟩
end
/-! ### a def whose first statement is super().m(..) -/
section
variable {CX : CXT} {P : Program} {w : World} {K : PySem.W.Frag} {mg : Str → Option Value} {base : Heap} {k k2 : Nat} {f D cc cda f2 : Addr} {name qual : Str} {params : Arguments} {scope : Scope} {dV kV doc pm ct oc : Value} {an od : Option Addr}
  {osl : Array (Option Value)} {N ps : List Str} {sp sp2 : Sp} {p0 p1 apos pos pos2 : Pos} {m : Str} {e : Expr} {es : List Expr} {rest : List Stmt} {ar : Arg}
abbrev supF (name qual : Str) (params : Arguments) (body : List Stmt) (scope : Scope) (cc cda : Addr) : NF := ⟨name, qual, params, body, scope, [("__class__", cc)], cda⟩
abbrev supS (p0 p1 apos pos pos2 : Pos) (m : Str) (e : Expr) (es : List Expr) : Stmt := .Expr (.Call (.Attribute (.Call (.Name "super" p0) [] [] p1) m apos) (e :: es) [] pos) pos2
theorem fn_super (lk : K.lookup f = some ⟨oc, od, .func (PySem.W.fnX name qual params (supS p0 p1 apos pos pos2 m e es :: rest) scope [("__class__", cc)] dV kV doc pm an (.ref cda) ct), osl⟩) (hcd : PySem.W.codeIn K (.ref cda) qual = true) (S : NScope N ps ["__class__"] scope) (hp0 : ps ≠ [])
    (Sf : SupFn K P D cc cda f2) (F2 : FnR P w K mg base CX k2 f2 sp2) (hk2 : k2 ≤ k) (hm : mg "super" = none) (hp : (params.posonlyargs ++ params.args).head? = some ar) (ha0 : ps[0]? = some ar.arg)
    (hks : scope.names.lookup ("super" : Str) = some .globalImplicit) (len : ∀ vs H Q E, sp vs H Q E → vs.length = ps.length) (hn : (m == ("__class__" : Str)) = false)
    (hst : ∀ env : Env, starEach (e :: es) env = (false, eval e env) :: starEach es env) (hpl : ∀ env : Env, (backTo pos (starEach es env)).any (·.1) = false) (pl : Sem Bool)
    (hev : ∀ env : Env, eval (.Call (.Attribute (.Call (.Name "super" p0) [] [] p1) m apos) (e :: es) [] pos) env = (do
      let ov ← attributeBase (.Call (.Name "super" p0) [] [] p1) m env (eval (.Call (.Name "super" p0) [] [] p1) env)
      standAt apos.atName
      let (f, first) ← holding [ov] (getMethod ov m pl)
      callWith pos f first (backTo pos (starEach (e :: es) env)) []))
    (hbody : ∀ (A : Around) (outer : List Env) (s : Shared) (H : Hp) (vs : List V) (Q : VK) (E : XK), Room k (A.deeper (envF (supF name qual params (supS p0 p1 apos pos pos2 m e es :: rest) scope cc cda) f s.heap.objs.size)) → sp vs H Q E →
      ∃ x C dx fs E2 ta t, vs.head? = some (.ref x) ∧ H x = some (.ins C dx fs) ∧ SupAt K D C f2 m ∧
        Passes CX (ncx CX P w K mg base N (supF name qual params (supS p0 p1 apos pos pos2 m e es :: rest) scope cc cda) f A outer s H E) E2 ∧
        PA (ncx CX P w K mg base N (supF name qual params (supS p0 p1 apos pos pos2 m e es :: rest) scope cc cda) f A outer s H E) (e :: es) ta ∧
        PSs (ncx CX P w K mg base N (supF name qual params (supS p0 p1 apos pos pos2 m e es :: rest) scope cc cda) f A outer s H E) rest t ∧
        ta (startF N vs [some (.ref D)]) H (fun ws H1 => sp2 (.ref x :: ws) H1 (fun _ H2 => t { nx := fun _ H' => Q .non H', rt := Q } (startF N vs [some (.ref D)]) H2) E2)) :
    FnOk P w K mg base CX (k + 1) f (PySem.W.fnX name qual params (supS p0 p1 apos pos pos2 m e es :: rest) scope [("__class__", cc)] dV kV doc pm an (.ref cda) ct) ps sp := by
  refine ⟨len, fun A outer s H args us vs Q E hr e0 hb r hsp => ?_⟩
  have hl := len _ _ _ _ hsp
  have KX : K.In s.heap := e0.mod.kin.keeps fun b o e => (e0.bs b o e).1
  have lim : s.heap.NoLimit := e0.mod.nolimit.keeps fun b o e => (e0.bs b o e).1
  obtain ⟨cl, cld, csl, hcell⟩ := Sf.cell
  have hccb := e0.mod.kin _ _ hcell
  have hcc := e0.bs _ _ hccb
  refine codeAny_call_function hr.depth (KX _ _ lk) rfl S.co S.gen rfl (PySem.W.codeRec_of KX hcd) (hb _ _ _ _ ?_)
  refine wpAny_newFunctionEnv S.nocell (fun ⟨n, _⟩ hy => S.par n (List.of_mem_zip hy).1) (fun h₁ hns hsb => ⟨lim.fresh _ hsb, ?_⟩) S.kind
  have kp : ∀ b o, s.heap.get? b = some o → h₁.get? b = some o := fun b o e => hsb.extBut b o (Nat.ne_of_lt (Heap.lt_size e)) (Heap.get?_push_of_some _ e)
  have C : CellsAt [("__class__", cc)] ["__class__"] [some (.ref D)] s.heap H := by
    refine ⟨rfl, fun y c z => ?_, fun x y c z1 z2 => ?_, fun i y hi => ?_⟩
    · rw [List.lookup_cons] at z
      split at z
      · cases z; exact ⟨hcc.2, _, _, hcc.1, rfl⟩
      · cases z
    · rw [List.lookup_cons] at z1 z2
      split at z1
      · rename_i q1
        split at z2
        · rename_i q2
          rw [beq_iff_eq.mp q1, beq_iff_eq.mp q2]
        · cases z2
      · cases z1
    · cases i with
      | zero =>
        simp at hi
        subst hi
        refine ⟨cc, by simp [List.lookup_cons], fun v hv => ?_⟩
        simp at hv
        subst hv
        exact ⟨.ref D, rfl, _, hcc.1, rfl⟩
      | succ i => simp at hi
  obtain ⟨x, C0, dx, fs, E2, ta, t, hx0, hxH, hA, hps, hta, ht, hq⟩ := hbody A outer s H vs Q E (hr.deeper _) hsp
  have I : Inv (ncx CX P w K mg base N (supF name qual params (supS p0 p1 apos pos pos2 m e es :: rest) scope cc cda) f A outer s H E) [] (startF N vs [some (.ref D)]) H { s with heap := h₁, toks := s.toks + (ps.zip us).length } := inv_startN S hr.hd e0 hl r C hns kp
  have h0N : N[0]? = some ar.arg := by
    have z := congrArg (fun l => l[0]?) S.pre
    have hpl' : 0 < ps.length := List.length_pos_iff.mpr hp0
    rw [List.getElem?_take_of_lt (by simp), List.getElem?_append_left hpl'] at z
    rw [z]; exact ha0
  have hx0' : (startF N vs [some (V.ref D)])[0]? = some (some (.ref x)) := by
    cases vs with
    | nil => simp at hx0
    | cons v r => simp at hx0; subst hx0; rfl
  refine ks_codeAny_funcAt ?_
  show _root_.PySem.wpAt _ (A.deeper (envF (supF name qual params (supS p0 p1 apos pos pos2 m e es :: rest) scope cc cda) f s.heap.objs.size)) (.func _ (envF (supF name qual params (supS p0 p1 apos pos pos2 m e es :: rest) scope cc cda) f s.heap.objs.size)) (execs (supS p0 p1 apos pos pos2 m e es :: rest) (envF (supF name qual params (supS p0 p1 apos pos pos2 m e es :: rest) scope cc cda) f s.heap.objs.size)) _ _ _
  refine ks_wpAt_execs_cons (ks_wpAt_mono (super_stmt (X := ncx CX P w K mg base N (supF name qual params (supS p0 p1 apos pos pos2 m e es :: rest) scope cc cda) f A outer s H E) (pl := pl) rfl Sf hA lk hp h0N hx0' hxH hm hks (S.frk _ List.mem_cons_self) (S.par _ (List.mem_of_getElem? ha0)) F2 (hr.deeper _ |>.mono hk2) hps hta I hq hn (hst _) (hpl _) (hev _)) (fun fl s' hs => ?_) fun e s' z => z)
  obtain ⟨rfl, H2, I2, q2⟩ := hs
  refine wpAt_of_wpAny ?_
  refine wpAny_mono (ht.run [] s' _ H2 _ I2 q2) (fun fl s' hs => ?_) fun e s' hs => hs
  have fin : ∀ {σ' : L2.St} {H' : Hp} {v : V} {u : Value}, Inv (ncx CX P w K mg base N (supF name qual params (supS p0 p1 apos pos pos2 m e es :: rest) scope cc cda) f A outer s H E) [] σ' H' s' → L2.RelV v u → Q v H' → CE outer P w H s Q u s' :=
    fun {σ' H' v u} J rv q => ⟨v, H', J.os, J.bare, J.base, J.hok, rv, q⟩
  cases fl with
  | ret u =>
    obtain ⟨v, σ', H', J, rv, q⟩ := hs
    exact fin J rv q
  | next =>
    obtain ⟨σ', H', J, q⟩ := hs
    exact fin (v := V.non) (u := Value.none) J rfl q
  | brk =>
    obtain ⟨_, _, _, q⟩ := hs
    exact False.elim q
  | cont =>
    obtain ⟨_, _, _, q⟩ := hs
    exact False.elim q
end
end DW
set_option Elab.async false
set_option maxRecDepth 100000
set_option maxHeartbeats 4000000
set_option linter.all false
set_option autoImplicit false
/-! the bodies of __init__ -/
namespace DW
variable [Tb]
open PySem PySem.Spec PyProof.Rows L2 NdefX

/-! ### attributes as targets -/
def gAttr (K : PySem.W.Frag) (ta : TE) (f : Str) : TG := fun v σ H Q => ta σ H fun x H2 => ∃ a C dx fs, x = .ref a ∧ H2 a = some (.ins C dx fs) ∧ Cls K C ∧ NoAttr K C f ∧ fs.length < 1000 ∧ Q σ (upd H2 a (.ins C dx (putF f v fs)))
theorem pg_attr {X : Cx} {o : Expr} {f : Str} {pos : Pos} {ta : TE} (ha : PE X o ta) : PG X (.Attribute o f pos) (gAttr X.K ta f) := by
  refine ⟨fun pins s σ H v u Q I r h => ?_⟩
  rw [assign_Attribute]
  refine wpAny_bind (wpAny_holding (thn (ha.run pins s σ H _ I h) fun ov s1 ⟨x, H1, I1, rx, a, C, dx, fs, ex, ea, c, n, l, q⟩ => ?_))
  subst ex
  obtain rfl : ov = Value.ref a := rx
  refine wpAny_bind (wpAny_standAt (wpAny_bind (wpAny_holding ?_)))
  exact setattr_ok I1 ea c n l r fun s3 I3 => wpAny_release ⟨σ, _, I3, q⟩
def gAttrs (K : PySem.W.Frag) (ta : TE) : List Str → TGs
  | [] => gNil
  | f :: r => gCons (gAttr K ta f) (gAttrs K ta r)

abbrev Kf := List (Option D) → List Str → List D → Prop
section
variable {K : PySem.W.Frag} {w : Option Addr} {C : Addr} {S : Addr → Bool} {H H0 H1 H2 H' : Hp} {n m : Nat} {σ : L2.St} {ds : List (Option D)} {ta tb te : TE} {tA tB : TA} {t u : TS} {c : TT} {x dx : Addr} {ns : List Str} {xs : List V} {l : List D} {k k' : Kf}
theorem okN (ok : OkW K w S H n) : OkW K none S H m := ⟨fun p h => (nomatch h), ok.2, ok.3, ok.4⟩
theorem freeN {x : Addr} (h : Tb.tab x = false) : Free none x := ⟨by simp, h⟩
/-- in the midst of an __init__: x is the object, ns its attributes so far -/
structure NSt (K : PySem.W.Frag) (C : Addr) (S : Addr → Bool) (H0 : Hp) (x dx : Addr) (σ : L2.St) (H : Hp) (ds : List (Option D)) (ns : List Str) (xs : List V) (l : List D) : Prop where
  re : RpE K none S H0 H σ ds
  ok : OkW K none S H 0
  sx : S x = true
  tx : Tb.tab x = false
  s0 : σ[0]? = some (some (.ref x))
  d0 : ds[0]? = some none
  hx : H x = some (.ins C dx (ns.zip xs))
  len : xs.length = ns.length
  rps : Rps K (cut S H) xs l
def WpN (K : PySem.W.Frag) (C : Addr) (t : TS) (ds : List (Option D)) (ns : List Str) (l : List D) (k : Kf) : Prop :=
  ∀ (S : Addr → Bool) (H0 : Hp) (x dx : Addr) (σ : L2.St) (H : Hp) (xs : List V) (E : Ends), NSt K C S H0 x dx σ H ds ns xs l →
    (∀ (σ' : L2.St) (H' : Hp) (ds' : List (Option D)) (ns' : List Str) (xs' : List V) (l' : List D), k ds' ns' l' → Keep x H H' → NSt K C S H0 x dx σ' H' ds' ns' xs' l' → E.nx σ' H') → t E σ H
theorem NSt.up (N : NSt K C S H0 x dx σ H ds ns xs l) (p : Pres none H H') (ok : OkW K none S H' n) : NSt K C S H0 x dx σ H' ds ns xs l :=
  ⟨N.re.up N.ok p, okN ok, N.sx, N.tx, N.s0, N.d0, p.go _ _ (freeN N.tx) N.hx rfl, N.len, N.rps.mono (ex_cut N.ok p)⟩
/-- x alone changed -/
theorem NSt.mut (N : NSt K C S H0 x dx σ H ds ns xs l) {ns' : List Str} {xs' : List V} {l' : List D} (kp : Keep x H H') (okM : OkW K none S H' 0) (hx : H' x = some (.ins C dx (ns'.zip xs'))) (hl : xs'.length = ns'.length) (r : Rps K (cut S H') xs' l') : NSt K C S H0 x dx σ H' ds ns' xs' l' := by
  have ex : Ex (cut S H) (cut S H') := fun a o z => by
    obtain ⟨h1, h2⟩ := cut_some z
    exact cut_mk h1 (kp.go a o (fun e => by subst e; rw [N.sx] at h1; cases h1) (N.ok.w_ne h1).2 h2 (cut_nt z)) (cut_nt z)
  refine ⟨⟨N.re.len, fun i d h o => ?_, fun i m h => ?_, N.re.dis⟩, okM, N.sx, N.tx, N.s0, N.d0, hx, hl, r⟩
  · obtain ⟨v, h1, h2⟩ := N.re.get i d h o
    exact ⟨v, h1, h2.mono ex⟩
  · obtain ⟨a, ys, h1, h2, h3, h4, h5, h6⟩ := N.re.own i m h
    refine ⟨a, ys, h1, h2, h3, h4, kp.go a _ (fun e => ?_) h3.2 h5 rfl, h6.mono ex⟩
    subst e
    rw [N.hx] at h5; cases h5
theorem n_seq (h : WpN K C t ds ns l fun ds' ns' l' => WpN K C u ds' ns' l' k) : WpN K C (tSeq t u) ds ns l k := fun S H0 x dx σ H xs E N f =>
  h S H0 x dx σ H xs { E with nx := u E } N fun σ' H' ds' ns' xs' l' hk kp N' => hk S H0 x dx σ' H' xs' E N' fun σ2 H2 ds2 ns2 xs2 l2 hk2 kp2 N2 => f σ2 H2 ds2 ns2 xs2 l2 hk2 (kp.trans kp2) N2
theorem n_next (h : k ds ns l) : WpN K C tNext ds ns l k := fun S H0 x dx σ H xs E N f => f σ H ds ns xs l h Keep.refl N
theorem n_never (h : False) : WpN K C tNever ds ns l k := h.elim
theorem n_if (h : WpT K none c ds 0 fun b _ => (b = true → WpN K C t ds ns l k) ∧ (b = false → WpN K C u ds ns l k)) : WpN K C (tIfS c t u) ds ns l k := fun S H0 x dx σ H xs E N f =>
  h S H0 σ H _ N.re N.ok fun b H1 n1 ⟨h1, h2⟩ p1 ok1 => by
    cases b with
    | true => exact h1 rfl S H0 x dx σ H1 xs E (N.up p1 ok1) fun σ2 H2 ds2 ns2 xs2 l2 hk2 kp2 N2 => f σ2 H2 ds2 ns2 xs2 l2 hk2 ((Keep.of p1).trans kp2) N2
    | false => exact h2 rfl S H0 x dx σ H1 xs E (N.up p1 ok1) fun σ2 H2 ds2 ns2 xs2 l2 hk2 kp2 N2 => f σ2 H2 ds2 ns2 xs2 l2 hk2 ((Keep.of p1).trans kp2) N2
/-- name = e -/
theorem n_set {i : Nat} (hi : i ≠ 0) (h : WpE K none te ds 0 fun d _ => isOwn d = false ∧ k (ds.set i (some d)) ns l) : WpN K C (tAsg te (gName i)) ds ns l k := fun S H0 x dx σ H xs E N f =>
  h S H0 σ H _ N.re N.ok fun v H1 d n1 ⟨ho, hk⟩ p1 ok1 r1 => by
    have N1 := N.up p1 ok1
    refine f _ H1 _ ns xs l hk (Keep.of p1) ⟨N1.re.set r1 ho, N1.ok, N1.sx, N1.tx, ?_, ?_, N1.hx, N1.len, N1.rps⟩
    · rw [List.getElem?_set_ne hi]; exact N1.s0
    · rw [List.getElem?_set_ne hi]; exact N1.d0
theorem putF_new {f : Str} {v : V} : ∀ {ns : List Str} {xs : List V}, f ∉ ns → xs.length = ns.length → putF f v (ns.zip xs) = (ns ++ [f]).zip (xs ++ [v])
  | [], [], _, _ => rfl
  | g :: ns, y :: xs, h, hl => by
    have hg : g ≠ f := fun e => h (by rw [e]; exact List.mem_cons_self)
    show putF f v ((g, y) :: ns.zip xs) = (g, y) :: (ns ++ [f]).zip (xs ++ [v])
    unfold putF
    rw [if_neg hg, putF_new (fun z => h (List.mem_cons_of_mem _ z)) (by simpa using hl)]
  | _ :: _, [], _, hl => by simp at hl
  | [], _ :: _, _, hl => by simp at hl
theorem NSt.put (N : NSt K C S H0 x dx σ H ds ns xs l) {f : Str} {v : V} {d : D} (hf : f ∉ ns) (r : Rp K (cut S H) v d) : NSt K C S H0 x dx σ (upd H x (.ins C dx (putF f v (ns.zip xs)))) ds (ns ++ [f]) (xs ++ [v]) (l ++ [d]) := by
  refine N.mut Keep.upd (N.ok.mut N.sx (freeN N.tx) (.ins N.hx)) (by rw [upd_same, putF_new hf N.len]) (by simp [N.len]) ?_
  rw [cut_upd N.sx]
  exact N.rps.append (.cons r .nil)
/-- self.f = e -/
theorem n_put {f : Str} (hc : Cls K C) (hn : NoAttr K C f) (h : WpE K none te ds 0 fun d _ => f ∉ ns ∧ ns.length < 1000 ∧ k ds (ns ++ [f]) (l ++ [d])) : WpN K C (sFld K (tVar 0) te f) ds ns l k := fun S H0 x dx σ H xs E N fin =>
  h S H0 σ H _ N.re N.ok fun v H1 d n1 ⟨hf, hl, hk⟩ p1 ok1 r1 => by
    have N1 := N.up p1 ok1
    refine ⟨.ref x, N1.s0, x, C, dx, _, rfl, N1.hx, hc, hn, by rw [List.length_zip, N1.len]; omega, ?_⟩
    exact fin _ _ _ _ _ _ hk ((Keep.of p1).trans Keep.upd) (N1.put hf r1)
theorem gattrs_go (hc : Cls K C) : ∀ {fs : List Str} {vs : List V} {es : List D} {σ : L2.St} {H : Hp} {ns : List Str} {xs : List V} {l : List D} {Q : L2.St → Hp → Prop}, NSt K C S H0 x dx σ H ds ns xs l → Rps K (cut S H) vs es → vs.length = fs.length → (∀ f ∈ fs, NoAttr K C f) → (ns ++ fs).Nodup → ns.length + fs.length < 1000 →
    (∀ H' xs', Keep x H H' → NSt K C S H0 x dx σ H' ds (ns ++ fs) xs' (l ++ es) → Q σ H') → gAttrs K (tVar 0) fs vs σ H Q
  | [], [], _, σ, H, ns, xs, l, Q, N, .nil, _, _, _, _, q => ⟨rfl, q H xs Keep.refl (by simpa using N)⟩
  | f :: fs, v :: vs, _, σ, H, ns, xs, l, Q, N, .cons r rs, hl, hn, nd, hz, q => by
    have hf : f ∉ ns := fun z => by
      rw [List.nodup_append] at nd
      exact nd.2.2 f z f List.mem_cons_self rfl
    refine ⟨v, vs, rfl, .ref x, N.s0, x, C, dx, _, rfl, N.hx, hc, hn f List.mem_cons_self, ?_, ?_⟩
    · rw [List.length_zip, N.len]; simp at hz; omega
    have N1 := N.put hf r
    refine gattrs_go hc N1 (by rw [cut_upd N.sx]; exact rs) (by simpa using hl) (fun g hg => hn g (List.mem_cons_of_mem _ hg)) (by simpa [List.append_assoc] using nd) (by simp at hz ⊢; omega) fun H' xs' kp N' => ?_
    refine q H' xs' (Keep.upd.trans kp) ?_
    simpa [List.append_assoc] using N'
  | [], _ :: _, _, _, _, _, _, _, _, _, _, hl, _, _, _, _ => by simp at hl
  | _ :: _, [], _, _, _, _, _, _, _, _, _, hl, _, _, _, _ => by simp at hl
/-- self.a, self.b, .. = self.f -/
theorem n_unpack {f : Str} {fs : List Str} {es : List D} {j : Nat} (hc : Cls K C) (hn0 : NoAttr K C f) (hl : (ns.zip l).lookup f = some (.tup es)) (hlen : es.length = fs.length) (hj : j = fs.length) (hn : ∀ g ∈ fs, NoAttr K C g) (nd : (ns ++ fs).Nodup) (hz : ns.length + fs.length < 1000) (h : k ds (ns ++ fs) (l ++ es)) :
    WpN K C (tAsg (tFld K (tVar 0) f) (gTup K j (gAttrs K (tVar 0) fs))) ds ns l k := fun S H0 x dx σ H xs E N fin => by
  obtain ⟨v, hv, rv⟩ := zip_lookup N.rps N.len hl
  refine ⟨.ref x, N.s0, x, C, dx, _, v, rfl, N.hx, hc, hn0, hv, ?_⟩
  cases rv with
  | @tup a ys _ hT hy =>
    refine ⟨a, ys, rfl, Evl.ex_t (cut_ex S H) hT, by rw [hy.length, hlen, hj], ?_⟩
    refine gattrs_go hc N hy (by rw [hy.length, hlen]) hn nd hz fun H' xs' kp N' => ?_
    exact fin σ H' ds _ xs' _ h kp N'
/-! ### the start of an __init__ -/
def nstart (N : List Str) (es : List D) : List (Option D) := none :: (es.map some ++ List.replicate (N.length - (es.length + 1)) none)
theorem init_ok {N : List Str} {g : List D → List Str → List D → Prop} {vs : List V} {Q : VK} {E : XK} (hw : ∀ es ns l, g es ns l → WpN K C t (nstart N es) [] [] fun _ ns' l' => ns' = ns ∧ l' = l) (h : initSp K C g vs H Q E) :
    t { nx := fun _ H' => Q .non H', rt := Q } (L2.start N vs) H := by
  obtain ⟨x, dx, S, avs, es, ns, l, rfl, hS, htx, hok, hx, r, hg, fin⟩ := h
  have r0 : Rps K (cut S H) (.ref x :: avs) (.raw (.ref x) :: es) := .cons (.raw _) r
  have re := rpE_start (w := none) (N := N) r0
  refine hw es ns l hg S H x dx _ H [] _ ⟨re.forget (by unfold nstart dstart; simp) fun i d hi => ?_, hok, hS, htx, rfl, rfl, hx, rfl, .nil⟩ fun σ' H' ds' ns' xs' l' ⟨e1, e2⟩ kp N' => ?_
  · cases i with
    | zero => unfold nstart at hi; simp at hi
    | succ i =>
      unfold nstart at hi
      unfold dstart
      simpa using hi
  · subst e1 e2
    exact fin H' xs' kp N'.ok N'.hx N'.len N'.rps
theorem initSp_len {g : List D → List Str → List D → Prop} {j : Nat} (hg : ∀ es ns l, g es ns l → es.length = j) {vs : List V} {Q : VK} {E : XK} (h : initSp K C g vs H Q E) : vs.length = j + 1 := by
  obtain ⟨x, dx, S, avs, es, ns, l, rfl, hS, htx, hok, hx, r, hgs, fin⟩ := h
  rw [List.length_cons, r.length, hg _ _ _ hgs]
/-! ### super().__init__(e, ..), a def(self, a, *parts) -/
/-- the promise of def __init__(self, a, *parts) of any class -/
def superSp (K : PySem.W.Frag) (C : Addr) (g : List D → List Str → List D → Prop) : Sp := fun vs H Q E => ∃ ws rest, vs = ws ++ rest ∧ ws.length = 2 ∧ rest.length ≤ sizeLine ∧ ∀ p, H p = none → initSp K C g (ws ++ [.ref p]) (upd H p (.tup rest)) Q E
theorem n_super {g : List D → List Str → List D → Prop} {E2 : XK} {E : Ends} (h : WpA K none tA ds 0 fun es _ => ∃ d r ns l, es = d :: r ∧ r.length ≤ 100000 ∧ g [d, .tup r] ns l ∧ WpN K C t ds ns l k) (N : NSt K C S H0 x dx σ H ds [] [] [])
    (fin : ∀ (σ' : L2.St) (H' : Hp) (ds' : List (Option D)) (ns' : List Str) (xs' : List V) (l' : List D), k ds' ns' l' → Keep x H H' → NSt K C S H0 x dx σ' H' ds' ns' xs' l' → E.nx σ' H') :
    tA σ H (fun ws H1 => superSp K C g (.ref x :: ws) H1 (fun _ H2 => t E σ H2) E2) :=
  h S H0 σ H _ N.re N.ok fun ws H1 es n1 ⟨d, r, ns, l, e, hr, hg, hk⟩ p1 ok1 r1 => by
    subst e
    cases r1 with
    | @cons v vs _ _ ra rb =>
      have N1 := N.up p1 ok1
      have hxH : H1 x = some (.ins C dx []) := N1.hx
      refine ⟨[.ref x, v], vs, rfl, rfl, Evl.sz_of (by rw [rb.length]; exact hr), fun p hp => ⟨x, dx, S, [v, .ref p], [d, .tup r], ns, l, rfl, N.sx, N.tx, okN (ok1.new hp), ?_, ?_, hg, fun H' xs kp okF hx hl hxs => ?_⟩⟩
      · rw [upd_ne (ne_of_none hxH hp)]; exact hxH
      · have ex := ex_cut ok1 (Pres.new (w := none) (o := .tup vs) hp)
        exact .cons (ra.mono ex) (.cons (.tup (SqT.of (cut_new ok1 hp)) (rb.mono ex)) .nil)
      · have kp1 : Keep x H1 H' := (Keep.new hp).trans kp
        have N2 : NSt K C S H0 x dx σ H' ds ns xs l := N1.mut kp1 okF hx hl hxs
        exact hk S H0 x dx σ H' xs E N2 fun σ' H2 ds' ns' xs' l' hk' kp2 N' => fin σ' H2 ds' ns' xs' l' hk' ((Keep.of p1).trans (kp1.trans kp2)) N'
/-- .. its start, within the frame that knows its class -/
theorem super_ok {N : List Str} {g g2 : List D → List Str → List D → Prop} {vs : List V} {Q : VK} {E E2 : XK} {Dc : Addr} (hw : ∀ es ns l, g es ns l → WpA K none tA (none :: (es.map some ++ none :: List.replicate (N.length - (es.length + 2)) none)) 0 fun fs _ => ∃ d r ns1 l1, fs = d :: r ∧ r.length ≤ 100000 ∧ g2 [d, .tup r] ns1 l1 ∧
      WpN K C t (none :: (es.map some ++ none :: List.replicate (N.length - (es.length + 2)) none)) ns1 l1 fun _ ns' l' => ns' = ns ∧ l' = l) (h : initSp K C g vs H Q E) :
    ∃ x dx, vs.head? = some (.ref x) ∧ H x = some (.ins C dx []) ∧ tA (startF N vs [some (.ref Dc)]) H (fun ws H1 => superSp K C g2 (.ref x :: ws) H1 (fun _ H2 => t { nx := fun _ H' => Q .non H', rt := Q } (startF N vs [some (.ref Dc)]) H2) E2) := by
  obtain ⟨x, dx, S, avs, es, ns, l, rfl, hS, htx, hok, hx, r, hg, fin⟩ := h
  have hlr := r.length
  refine ⟨x, dx, rfl, hx, n_super (C := C) (S := S) (H0 := H) (x := x) (dx := dx) (hw es ns l hg) ⟨⟨?_, fun i d hi o => ?_, fun i l hi => ?_, fun i j l m a hij h1 h2 => ?_⟩, hok, hS, htx, rfl, rfl, hx, rfl, .nil⟩ fun σ' H' ds' ns' xs' l' ⟨e1, e2⟩ kp N' => ?_⟩
  · unfold startF; simp [hlr]; omega
  · cases i with
    | zero => simp at hi
    | succ i =>
      simp only [List.getElem?_cons_succ] at hi
      by_cases h1 : i < es.length
      · rw [List.getElem?_append_left (by simpa using h1), List.getElem?_map] at hi
        obtain ⟨d', hd, e⟩ := Option.map_eq_some_iff.mp hi
        cases e
        obtain ⟨v, hv, rv⟩ := r.get hd
        refine ⟨v, ?_, rv⟩
        unfold startF
        rw [List.map_cons, List.cons_append, List.getElem?_cons_succ, List.getElem?_append_left (by simp; omega), List.getElem?_map, hv]; rfl
      · rw [List.getElem?_append_right (by simp; omega)] at hi
        cases z : i - (es.map some).length with
        | zero => rw [z] at hi; simp at hi
        | succ q => rw [z] at hi; simp [List.getElem?_replicate] at hi
  · exact absurd hi (by
      cases i with
      | zero => simp
      | succ i =>
        simp only [List.getElem?_cons_succ]
        intro hi
        by_cases h1 : i < es.length
        · rw [List.getElem?_append_left (by simpa using h1), List.getElem?_map] at hi
          obtain ⟨d', hd, e⟩ := Option.map_eq_some_iff.mp hi
          cases e
          exact r.noOwn _ (List.mem_of_getElem? hd)
        · rw [List.getElem?_append_right (by simp; omega)] at hi
          cases z : i - (es.map some).length with
          | zero => rw [z] at hi; simp at hi
          | succ q => rw [z] at hi; simp [List.getElem?_replicate] at hi)
  · exact absurd h1 (by
      cases i with
      | zero => simp
      | succ i =>
        simp only [List.getElem?_cons_succ]
        intro hi
        by_cases h1 : i < es.length
        · rw [List.getElem?_append_left (by simpa using h1), List.getElem?_map] at hi
          obtain ⟨d', hd, e⟩ := Option.map_eq_some_iff.mp hi
          cases e
          exact r.noOwn _ (List.mem_of_getElem? hd)
        · rw [List.getElem?_append_right (by simp; omega)] at hi
          cases z : i - (es.map some).length with
          | zero => rw [z] at hi; simp at hi
          | succ q => rw [z] at hi; simp [List.getElem?_replicate] at hi)
  · subst e1 e2
    exact fin H' xs' kp N'.ok N'.hx N'.len N'.rps
end
end DW
set_option Elab.async false
set_option maxRecDepth 100000
set_option maxHeartbeats 4000000
set_option linter.all false
set_option autoImplicit false
/-! defs by name; the pen -/
namespace DW
variable [Tb]
open PySem PySem.Spec PyProof.Rows L2

/-- a def of the module that may be called by its name -/
structure Go (P : Program) (w : World) (K : PySem.W.Frag) (mg : Str → Option Value) (base : Heap) (k : Nat) (x : Str) (sp : Sp) (dvs : List V) : Prop where
  ex : ∃ (f : Addr) (fd : FuncData) (ps : List Str) (ds : List Value), FnOk P w K mg base CX0 k f fd ps sp ∧ mg x = some (.ref f) ∧ PySem.W.keepIn K (.ref f) = true ∧ Binds K fd ps ds ∧ Vals dvs ds
section
variable {X : Cx} {k j : Nat} {x : Str} {sp : Sp} {dvs : List V} {e : Expr} {es : List Expr} {t : TA} {p pos : Pos}
theorem pe_go (G : Go X.prog X.w X.K X.mg X.base j x sp dvs) (hr : Room k X.A) (ha : PA X (e :: es) t) (hj : j ≤ k := by decide) (hg : Gl X x := by rfl) (hdb : (x == ("__debug__" : Str)) = false := by decide) (he : starEach (e :: es) X.env = (false, eval e X.env) :: starEach es X.env := by rfl) (hpl : (backTo pos (starEach es X.env)).any (·.1) = false := by rfl) :
    PE X (.Call (.Name x p) (e :: es) [] pos) (tCall sp dvs E0 t) := by
  obtain ⟨f, fd, ps, ds, F, hm, hk, hb, hd⟩ := G.ex
  exact pe_call F (hr.mono hj) hg hm hk hb hd pass0 ha hdb he hpl
theorem pe_go0 (G : Go X.prog X.w X.K X.mg X.base j x sp dvs) (hr : Room k X.A) (hj : j ≤ k := by decide) (hg : Gl X x := by rfl) (hdb : (x == ("__debug__" : Str)) = false := by decide) : PE X (.Call (.Name x p) [] [] pos) (tCall sp dvs E0 tNil) := by
  obtain ⟨f, fd, ps, ds, F, hm, hk, hb, hd⟩ := G.ex
  exact pe_call0 F (hr.mono hj) hg hm hk hb hd pass0 hdb
theorem pw_last {t : TT} {a : Expr} {op : BoolOp} (h : PW X (.BoolOp op [a] pos) t) : PW X (.BoolOp op [a] pos) t := h
def rInU (K : PySem.W.Frag) : Bool → R2
  | false => fun x y H Q => rIn K false x y H Q ∨ rInD K x y H Q
  | true => fun x y H Q => rIn K true x y H Q ∨ rNotInD K x y H Q
theorem op_inU (hu : X.A.units + 65 < cLine) : OpR X (compareOp .In) (rInU X.K false) := op_in_seq.or (op_inD hu)
theorem op_notInU (hu : X.A.units + 65 < cLine) : OpR X (compareOp .NotIn) (rInU X.K true) := op_notIn_seq.or (op_notInD hu)
theorem RD.inU {K : PySem.W.Frag} {w : Option Addr} {neg : Bool} {d e : D} {n : Nat} {k : Kn} (h : RD K w (rIn K neg) d e n k) : RD K w (rInU K neg) d e n k := fun S v u H Q a b ok p => by
  cases neg <;> exact .inl (h S v u H Q a b ok p)
theorem rd_inDeep {K : PySem.W.Frag} {w : Option Addr} {d : D} {l : List D} {n : Nat} {k : Kn} (h1 : pureD d = true) (h2 : pureDs l = true) (s1 : SeqAt.shaped (toPy d) = true) (s2 : SeqAt.shaped (toPy (.lst l)) = true) (hk : k (.bl ((toPys l).any fun z => PyData.eqv z (toPy d))) n) : RD K w (rInU K false) d (.lst l) n k := fun S v u H Q a b ok p =>
  .inr ⟨_, _, a.dp h1, b.dp (d := .lst l) h2, s1, s2, p _ H _ n hk Pres.refl ok (.bl _)⟩
theorem rd_ninDeep {K : PySem.W.Frag} {w : Option Addr} {d : D} {l : List D} {n : Nat} {k : Kn} (h1 : pureD d = true) (h2 : pureDs l = true) (s1 : SeqAt.shaped (toPy d) = true) (s2 : SeqAt.shaped (toPy (.lst l)) = true) (hk : k (.bl (!(toPys l).any fun z => PyData.eqv z (toPy d))) n) : RD K w (rInU K true) d (.lst l) n k := fun S v u H Q a b ok p =>
  .inr ⟨_, _, a.dp h1, b.dp (d := .lst l) h2, s1, s2, p _ H _ n hk Pres.refl ok (.bl _)⟩
end
/-- .. within a greater budget -/
def kup (k : Kn) : Kn := fun d n => ∃ m, n ≤ m ∧ k d m
theorem Po.up {K : PySem.W.Frag} {w : Option Addr} {S : Addr → Bool} {H : Hp} {k : Kn} {Q : VK} (p : Po K w S H k Q) : Po K w S H (kup k) Q := fun v H' d n' ⟨m, hm, hk⟩ pr ok r => p v H' d m hk pr (ok.mono hm) r
theorem kup_of {k : Kn} {d : D} {n : Nat} (h : k d n) : kup k d n := ⟨n, Nat.le_refl _, h⟩
/-- the promise of a def by data -/
theorem fn_data {P : Program} {w : World} {K : PySem.W.Frag} {mg : Str → Option Value} {base : Heap} {k : Nat} {x qual : Str} {st : Stmt} {f : Addr} {fd : FuncData} {N ps : List Str} {sp : DSpW} {t : TS} (F : Fun K x qual st f fd) (S : FnScope N ps (defScope st))
    (hl : ∀ w es n k, sp w es n k → es.length = ps.length) (hb : Binds K fd ps []) (hm : mg x = some (.ref f))
    (hd : ∀ (cdv : Value) (A : Around) (outer : List Env) (s : Shared) (H : Hp) (E : XK), Room k (A.deeper (envOfC qual (defScope st) s.heap.objs.size f cdv)) → PSs (cxOf CX0 P w K mg base N qual (defScope st) f cdv A outer s H E).nox (defBody st) t)
    (hw : ∀ w es n k, sp w es n k → WpS K w t (dstart N es) n { nx := fun _ n' => kup k .non n', rt := kup k }) : Go P w K mg base (k + 1) x (toSp K sp) [] :=
  ⟨f, fd, ps, [], F.ok S (fun vs H Q E h => by
      obtain ⟨w, S, es, n, k, r, ok, hs, p⟩ := h
      rw [r.length]; exact hl w es n k hs) (fun cdv A outer s H vs Q E hr h => by
      obtain ⟨w, S, es, n, k, r, ok, hs, p⟩ := h
      exact ⟨t, hd cdv A outer s H E hr, body_ok (hw w es n k hs) r ok p.up⟩), hm, F.kp, hb, .nil⟩

/-! ### the pen -/
section
variable {K : PySem.W.Frag} {w : Option Addr} {S : Addr → Bool} {H H0 H1 H2 H' : Hp} {n m : Nat} {σ : L2.St} {ds : List (Option D)} {ta tb te : TE} {i : Nat} {k : Kn} {p : Addr}
theorem e_pen2 (hw : w = some p) (hi : ds[i]? = some (some (.raw (.ref p)))) (hk : ∀ z : Int, 0 ≤ z → k (.int z) n) : WpE K w (tOp (rIx K) (tVar i) (tC (.int 2))) ds n k := fun S H0 σ H Q re ok po => by
  obtain ⟨v, h1, h2⟩ := re.get i _ hi rfl
  cases h2
  obtain ⟨hS, c, ix, left, ns, g1, g2, g3, g4, g5, g6⟩ := ok.1 p hw
  exact ⟨_, h1, .inl ⟨p, _, 2, .int left, rfl, rfl, SqL.of g1, rfl, po _ H _ n (hk left g6) Pres.refl ok (.int _)⟩⟩
theorem e_pen1 (hw : w = some p) (hi : ds[i]? = some (some (.raw (.ref p)))) (hk : ∀ z : Int, 0 ≤ z → z ≤ n → k (.int z) n) : WpE K w (tOp (rIx K) (tVar i) (tC (.int 1))) ds n k := fun S H0 σ H Q re ok po => by
  obtain ⟨v, h1, h2⟩ := re.get i _ hi rfl
  cases h2
  obtain ⟨hS, c, ix, left, ns, g1, g2, g3, g4, g5, g6⟩ := ok.1 p hw
  exact ⟨_, h1, .inl ⟨p, _, 1, .int ix, rfl, rfl, SqL.of g1, rfl, po _ H _ n (hk ix g4 g5) Pres.refl ok (.int _)⟩⟩
theorem e_pen0 (hw : w = some p) (hi : ds[i]? = some (some (.raw (.ref p)))) (hk : ∀ ns : List Int, ns.length ≤ 63 → k (.lst (ns.map .int)) n) : WpE K w (tOp (rIx K) (tVar i) (tC (.int 0))) ds n k := fun S H0 σ H Q re ok po => by
  obtain ⟨v, h1, h2⟩ := re.get i _ hi rfl
  cases h2
  obtain ⟨hS, c, ix, left, ns, g1, g2, g3, g4, g5, g6⟩ := ok.1 p hw
  exact ⟨_, h1, .inl ⟨p, _, 0, .ref c, rfl, rfl, SqL.of g1, rfl, po _ H _ n (hk ns g3) Pres.refl ok (.lst g2 (Rps.of_ints ns))⟩⟩
theorem pen_tab (ok : OkW K w S H n) (hw : w = some p) : Tb.tab p = false := by
  cases z : Tb.tab p with
  | false => rfl
  | true =>
    obtain ⟨_, c, ix, left, ns, g1, _⟩ := ok.1 p hw
    obtain ⟨ps, e, _⟩ := (ok.3 p z).2
    rw [g1] at e; cases e
theorem pen_nc (ok : OkW K w S H n) (hw : w = some p) : NotCode H p := by
  obtain ⟨_, c, ix, left, ns, g1, _⟩ := ok.1 p hw
  exact .lst g1
/-- the pen itself written -/
theorem pen_put {kd : Kd} {S0 : Addr → Bool} {E : Ends} {ks : KS} {c : Addr} {ix left : Int} {ns : List Int} (hw : w = some p) (b : Base w K S0 H0 S H n) (r : RpE K w S H0 H σ ds) (e : Ends4 w K S0 H0 S H E ks) (g2 : cut S H c = some (.lst (ns.map V.int))) (g3 : ns.length ≤ 63) (hx : 0 ≤ ix) (hxm : ix ≤ m) (hl : 0 ≤ left)
    (hk : ks.nx ds m) : E.nx σ (upd H p (.lst [.ref c, .int ix, .int left])) := by
  have hS := (b.ok.1 p hw).1
  have ec : cut S (upd H p (.lst [.ref c, .int ix, .int left])) = cut S H := cut_upd hS
  have pr : Pres w H (upd H p (.lst [.ref c, .int ix, .int left])) := ⟨fun a o hne z _ => by
    rw [upd_ne (fun q => hne.1 (by rw [q]; exact hw))]; exact z, fun a z => NdefX.upd_none z⟩
  have ok' : OkW K w S (upd H p (.lst [.ref c, .int ix, .int left])) m := by
    refine ⟨fun q hq => ?_, fun a ha => ?_, fun a h => ⟨(b.ok.3 a h).1, (b.ok.3 a h).2.upd (pen_tab b.ok hw) h (pen_nc b.ok hw)⟩, fun a ha => ?_⟩
    · have : q = p := by rw [hw] at hq; cases hq; rfl
      subst this
      exact ⟨hS, c, ix, left, ns, upd_same, by rw [ec]; exact g2, g3, hx, hxm, hl⟩
    · by_cases q : a = p
      · subst q; exact ⟨_, upd_same⟩
      · obtain ⟨o, ho⟩ := b.ok.2 a ha
        exact ⟨o, by rw [upd_ne q]; exact ho⟩
    · by_cases q : a = p
      · subst q; exact .inr ⟨_, upd_same, rfl⟩
      · exact (b.ok.4 a ha).imp id fun ⟨o, ho, t⟩ => ⟨o, by rw [upd_ne q]; exact ho, t⟩
  exact e.nx S σ _ ds m hk (b.up pr ok') (r.up b.ok pr) (by rw [ec]; exact Evl.Ex.refl _)
/-- pen[2] = e -/
theorem s_pen2 {ks : KS} (hw : w = some p) (hi : ds[i]? = some (some (.raw (.ref p)))) (h : WpE K w te ds n fun d n1 => ∃ z : Int, d = .int z ∧ 0 ≤ z ∧ ks.nx ds n1) : WpS K w (tAsg te (gSub (tVar i) (tC (.int 2)) rSetL)) ds n ks := fun S0 H0 S σ H E b r e =>
  h S H0 σ H _ r b.ok fun v H1 d n1 ⟨z, ed, hz, hk⟩ p1 ok1 r1 => by
    subst ed
    cases r1
    have b1 := b.up p1 ok1
    have r' := r.up b.ok p1
    obtain ⟨v, h1, h2⟩ := r'.get i _ hi rfl
    cases h2
    obtain ⟨hS, c, ix, left, ns, g1, g2, g3, g4, g5, g6⟩ := ok1.1 p hw
    exact ⟨_, h1, p, _, 2, 2, rfl, rfl, g1, rfl, pen_put (kd := ks.nx) hw b1 r' (e.from (ex_cut b.ok p1)) g2 g3 g4 g5 hz hk⟩
/-- pen[1] = e -/
theorem s_pen1 {ks : KS} (hw : w = some p) (hi : ds[i]? = some (some (.raw (.ref p)))) (h : WpE K w te ds n fun d n1 => ∃ (z : Int) (m : Nat), d = .int z ∧ 0 ≤ z ∧ z ≤ m ∧ ks.nx ds m) : WpS K w (tAsg te (gSub (tVar i) (tC (.int 1)) rSetL)) ds n ks := fun S0 H0 S σ H E b r e =>
  h S H0 σ H _ r b.ok fun v H1 d n1 ⟨z, m, ed, hz, hm, hk⟩ p1 ok1 r1 => by
    subst ed
    cases r1
    have b1 := b.up p1 ok1
    have r' := r.up b.ok p1
    obtain ⟨v, h1, h2⟩ := r'.get i _ hi rfl
    cases h2
    obtain ⟨hS, c, ix, left, ns, g1, g2, g3, g4, g5, g6⟩ := ok1.1 p hw
    exact ⟨_, h1, p, _, 1, 1, rfl, rfl, g1, rfl, pen_put (kd := ks.nx) hw b1 r' (e.from (ex_cut b.ok p1)) g2 g3 hz hm g6 hk⟩
end
/-- the draw: a number below many -/
abbrev drawSp : DSpW := fun w es n k => ∃ (p : Addr) (many : Int), w = some p ∧ es = [.raw (.ref p), .int many] ∧ 0 < many ∧ many < 2 ^ 64 ∧ n < 2 ^ 20 ∧ ∀ d : Int, 0 ≤ d → d < many → k (.int d) (n + 1)
end DW
set_option Elab.async false
set_option maxRecDepth 100000
set_option maxHeartbeats 4000000
set_option linter.all false
set_option autoImplicit false
/-! what the printed derivations use -/
namespace DW
variable [Tb]
open PySem PySem.Spec PyProof.Rows L2

section
variable {X : Cx} {x : Str} {pos : Pos}
theorem pe_globI {i : Int} (hg : Gl X x) (hm : ∃ t, X.mg x = some (.int i t)) (hd : (x == ("__debug__" : Str)) = false := by decide) : PE X (.Name x pos) (tC (.int i)) := by
  obtain ⟨t, h⟩ := hm
  exact pe_glob hg h ⟨_, rfl⟩ hd
/-- a tuple of the module -/
def KTup (K : PySem.W.Frag) (mg : Str → Option Value) (x : Str) (l : List D) : Prop := ∃ (a : Addr) (xs : List V), mg x = some (.ref a) ∧ SqT K (fun _ => none) a xs ∧ Rps K (fun _ => none) xs l
def tKT (K : PySem.W.Frag) (l : List D) : TE := fun _ H Q => ∀ (a : Addr) (xs : List V), SqT K (fun _ => none) a xs → Rps K (fun _ => none) xs l → Q (.ref a) H
theorem pe_globT {l : List D} (hg : Gl X x) (hm : KTup X.K X.mg x l) (hd : (x == ("__debug__" : Str)) = false := by decide) : PE X (.Name x pos) (tKT X.K l) := by
  obtain ⟨a, xs, h1, h2, h3⟩ := hm
  refine ⟨fun pins s σ H Q I h => ?_⟩
  exact (pe_glob (v := .ref a) hg h1 rfl hd).run pins s σ H Q I (h a xs h2 h3)
end
theorem e_kt {K : PySem.W.Frag} {w : Option Addr} {n : Nat} {ds : List (Option D)} {l : List D} {k : Kn} (hk : k (.tup l) n) : WpE K w (tKT K l) ds n k := fun S H0 σ H Q re ok p a xs hT hx => by
  have e : Ex (fun _ => none) (cut S H) := fun _ _ h => by cases h
  exact p _ H _ n hk Pres.refl ok (.tup (Evl.ex_t e hT) (hx.mono e))
/-- a class of the module that may be made -/
structure Mkc (P : Program) (w : World) (K : PySem.W.Frag) (mg : Str → Option Value) (base : Heap) (k : Nat) (x : Str) (C : Addr) (sp : Sp) (dvs : List V) : Prop where
  ex : ∃ (f : Addr) (fd : FuncData) (ps : List Str) (ds : List Value), Mk K C f ∧ FnOk P w K mg base CX0 k f fd ps sp ∧ mg x = some (.ref C) ∧ Binds K fd ps ds ∧ Vals dvs ds
section
variable {X : Cx} {k j : Nat} {x : Str} {sp : Sp} {dvs : List V} {e : Expr} {es : List Expr} {t : TA} {p pos : Pos} {C : Addr}
theorem pe_mk (M : Mkc X.prog X.w X.K X.mg X.base j x C sp dvs) (hr : Room k X.A) (ha : PA X (e :: es) t) (hj : j + 1 ≤ k := by decide) (hg : Gl X x := by rfl) (hdb : (x == ("__debug__" : Str)) = false := by decide) (he : starEach (e :: es) X.env = (false, eval e X.env) :: starEach es X.env := by rfl) (hpl : (backTo pos (starEach es X.env)).any (·.1) = false := by rfl) :
    PE X (.Call (.Name x p) (e :: es) [] pos) (tMake C sp dvs E0 t) := by
  obtain ⟨f, fd, ps, ds, M, F, hm, hb, hd⟩ := M.ex
  exact pe_make M F (hr.mono hj) hg hm hb hd pass0 ha hdb he hpl
end
/-- a def called by keywords alone -/
structure Gok (P : Program) (w : World) (K : PySem.W.Frag) (mg : Str → Option Value) (base : Heap) (k : Nat) (x : Str) (ks : List Str) (sp : Sp) (gV : List V → List V → List V) : Prop where
  ex : ∃ (f : Addr) (fd : FuncData) (ps : List Str) (g : List Value → List Value → List Value), FnOk P w K mg base CX0 k f fd ps sp ∧ mg x = some (.ref f) ∧ PySem.W.keepIn K (.ref f) = true ∧ KBn K fd ps 0 ks g gV
section
variable {X : Cx} {k j : Nat} {x : Str} {ks : List Str} {sp : Sp} {gV : List V → List V → List V} {kws : List Keyword} {t tk : TA} {p pos : Pos}
theorem pe_gok {b : Nat} (G : Gok X.prog X.w X.K X.mg X.base j x ks sp gV) (hr : Room k X.A) (hkw : PK X kws tk) (hb : ks.length = b := by rfl) (hj : j ≤ k := by decide) (hg : Gl X x := by rfl) (hall : (backToKw pos (keywordEach kws X.env)).all (·.1.isSome) = true := by rfl) (hks : (backToKw pos (keywordEach kws X.env)).filterMap (·.1) = ks := by rfl) (hdb : (x == ("__debug__" : Str)) = false := by decide)
    (hpl : ((backTo pos (starEach [] X.env)).any (·.1) || (backToKw pos (keywordEach kws X.env)).any (·.1.isNone)) = false := by rfl) : PE X (.Call (.Name x p) [] kws pos) (L2.tCallN 0 b sp gV E0 tNil tk) := by
  subst hb
  obtain ⟨f, fd, ps, g, F, hm, hk, hb⟩ := G.ex
  exact pe_callN0 F (hr.mono hj) hg hm hk hb pass0 hkw hall hks hdb hpl
end
def supArgs (s : Stmt) : List Expr := match defBody s with
  | .Expr (.Call _ es _ _) _ :: _ => es
  | _ => []
end DW
set_option Elab.async false
set_option maxRecDepth 100000
set_option maxHeartbeats 4000000
set_option linter.all false
set_option autoImplicit false
/-! the rules in the shape that the stepping wants -/
namespace DW
variable [Tb]
open PySem PySem.Spec PyProof.Rows L2
section
variable {K : PySem.W.Frag} {w : Option Addr} {n : Nat} {ds : List (Option D)} {ta tb te : TE} {i : Nat} {k : Kn} {ks : KS}
theorem e_varX (h : ∃ d, ds[i]? = some (some d) ∧ isOwn d = false ∧ k d n) : WpE K w (tVar i) ds n k := by
  obtain ⟨d, h1, h2, h3⟩ := h
  exact e_var h1 h3 h2
theorem e_pen2X (h : ∃ p, w = some p ∧ ds[i]? = some (some (.raw (.ref p))) ∧ ∀ z : Int, 0 ≤ z → k (.int z) n) : WpE K w (tOp (rIx K) (tVar i) (tC (.int 2))) ds n k := by
  obtain ⟨p, h1, h2, h3⟩ := h
  exact e_pen2 h1 h2 h3
theorem e_pen1X (h : ∃ p, w = some p ∧ ds[i]? = some (some (.raw (.ref p))) ∧ ∀ z : Int, 0 ≤ z → z ≤ n → k (.int z) n) : WpE K w (tOp (rIx K) (tVar i) (tC (.int 1))) ds n k := by
  obtain ⟨p, h1, h2, h3⟩ := h
  exact e_pen1 h1 h2 h3
theorem e_pen0X (h : ∃ p, w = some p ∧ ds[i]? = some (some (.raw (.ref p))) ∧ ∀ ns : List Int, ns.length ≤ 63 → k (.lst (ns.map .int)) n) : WpE K w (tOp (rIx K) (tVar i) (tC (.int 0))) ds n k := by
  obtain ⟨p, h1, h2, h3⟩ := h
  exact e_pen0 h1 h2 h3
theorem s_pen2X (h : ∃ p, w = some p ∧ ds[i]? = some (some (.raw (.ref p))) ∧ WpE K w te ds n fun d n1 => ∃ z : Int, d = .int z ∧ 0 ≤ z ∧ ks.nx ds n1) : WpS K w (tAsg te (gSub (tVar i) (tC (.int 2)) rSetL)) ds n ks := by
  obtain ⟨p, h1, h2, h3⟩ := h
  exact s_pen2 h1 h2 h3
theorem s_pen1X (h : ∃ p, w = some p ∧ ds[i]? = some (some (.raw (.ref p))) ∧ WpE K w te ds n fun d n1 => ∃ z : Int, d = .int z ∧ 0 ≤ z ∧ z ≤ ((n1 + 1 : Nat) : Int) ∧ ks.nx ds (n1 + 1)) : WpS K w (tAsg te (gSub (tVar i) (tC (.int 1)) rSetL)) ds n ks := by
  obtain ⟨p, h1, h2, h3⟩ := h
  refine s_pen1 h1 h2 (h3.imp fun d n1 ⟨z, a, b, c, e⟩ => ⟨z, n1 + 1, a, b, c, e⟩)
theorem rd_modX {i j : Int} (h : 0 < j ∧ k (.int (i % j)) n) : RD K w rModU (.int i) (.int j) n k := rd_mod h.1 h.2
theorem rd_divX {i j : Int} (h : 0 < j ∧ j < 2 ^ 64 ∧ k (.int (i / j)) n) : RD K w rDivU (.int i) (.int j) n k := rd_div ⟨h.1, by
  have h1 := h.1
  have h2 := h.2.1
  have e : j.natAbs < 2 ^ 64 := by omega
  by_cases z : j.natAbs = 0
  · omega
  · exact Nat.lt_trans ((Nat.log2_lt z).mpr e) (by decide)⟩ h.2.2
theorem rd_mulX {i j : Int} (h : ((-(2 ^ 64) < i ∧ i < 2 ^ 64) ∨ (-(2 ^ 64) < j ∧ j < 2 ^ 64)) ∧ k (.int (i * j)) n) : RD K w rMulU (.int i) (.int j) n k := rd_mul (.inl h.1) h.2
theorem rd_powX {i j : Int} (h : (0 ≤ j ∧ j ≤ 1000000 ∧ i.natAbs < 2 ^ 64) ∧ k (.int (i ^ j.toNat)) n) : RD K w (rI CPow fun i j => .int (i ^ j.toNat)) (.int i) (.int j) n k := rd_pow h.1 h.2
theorem rd_ixLX {l : List D} {i : Int} (h : ∃ d, atI l i = some d ∧ k d n) : RD K w (rIx K) (.lst l) (.int i) n k := by
  obtain ⟨d, h1, h2⟩ := h
  exact rd_ixL h1 h2
theorem rd_ixTX {l : List D} {i : Int} (h : ∃ d, atI l i = some d ∧ k d n) : RD K w (rIx K) (.tup l) (.int i) n k := by
  obtain ⟨d, h1, h2⟩ := h
  exact rd_ixT h1 h2
theorem toPys_ints : ∀ ns : List Int, toPys (ns.map .int) = ns.map PyData.int
  | [] => rfl
  | i :: r => by
    show toPy (.int i) :: toPys (r.map .int) = .int i :: r.map PyData.int
    rw [toPys_ints r]; rfl
theorem pure_ints : ∀ ns : List Int, pureDs (ns.map .int) = true
  | [] => rfl
  | i :: r => by
    show (pureD (.int i) && pureDs (r.map .int)) = true
    rw [pure_ints r]; rfl
theorem canLay_ints : ∀ ns : List Int, PyData.canLayAll0 (ns.map PyData.int) = true
  | [] => rfl
  | i :: r => by
    show (PyData.canLay0 (.int i) && PyData.canLayAll0 (r.map PyData.int)) = true
    rw [canLay_ints r]; rfl
theorem shaped_ints (ns : List Int) : SeqAt.shaped (toPy (.lst (ns.map .int))) = true := by
  show SeqAt.shaped (.list (toPys (ns.map .int))) = true
  rw [toPys_ints]
  show (PyData.canLayAll0 (ns.map PyData.int) && decide (PyData.depth (.list (ns.map PyData.int)) ≤ 64)) = true
  rw [canLay_ints]
  have e : PyData.depth (.list (ns.map PyData.int)) = PyData.depthAll (ns.map PyData.int) + 1 := rfl
  rw [e, PyProof.Rows.depthAll_ints]
  rfl
theorem rd_neNilX {ns : List Int} (h : (ns ≠ [] → k (.bl true) n) ∧ (ns = [] → k (.bl false) n)) : RD K w (rNeU K) (.lst (ns.map .int)) (.lst []) n k := by
  refine rd_neD (pure_ints ns) rfl (shaped_ints ns) (shaped_ints []) ?_
  cases ns with
  | nil => exact h.2 rfl
  | cons i r => exact h.1 (by simp)
theorem rd_isI {i : Int} (hk : k (.bl false) n) : RD K w rIsU (.int i) .non n k := rd_is rfl hk
theorem rd_isL {l : List D} (hk : k (.bl false) n) : RD K w rIsU (.lst l) .non n k := rd_is rfl hk
theorem rd_isT {l : List D} (hk : k (.bl false) n) : RD K w rIsU (.tup l) .non n k := rd_is rfl hk
theorem rd_isS {l : Str} (hk : k (.bl false) n) : RD K w rIsU (.str l) .non n k := rd_is rfl hk
theorem rd_isNn (hk : k (.bl true) n) : RD K w rIsU .non .non n k := rd_is rfl hk
theorem rd_isNI {i : Int} (hk : k (.bl true) n) : RD K w rIsNU (.int i) .non n k := rd_isN rfl hk
theorem rd_isNL {l : List D} (hk : k (.bl true) n) : RD K w rIsNU (.lst l) .non n k := rd_isN rfl hk
theorem rd_isNT {l : List D} (hk : k (.bl true) n) : RD K w rIsNU (.tup l) .non n k := rd_isN rfl hk
theorem rd_isNS {l : Str} (hk : k (.bl true) n) : RD K w rIsNU (.str l) .non n k := rd_isN rfl hk
theorem rd_isNNn (hk : k (.bl false) n) : RD K w rIsNU .non .non n k := rd_isN rfl hk
theorem rd_ixAnyX {l : List D} {i : Int} (h : (0 ≤ i ∧ i < l.length) ∧ ∀ d, d ∈ l → l[i.toNat]? = some d → k d n) : RD K w (rIx K) (.lst l) (.int i) n k := by
  obtain ⟨⟨h1, h2⟩, h3⟩ := h
  obtain ⟨j, rfl⟩ := Int.eq_ofNat_of_zero_le h1
  have hj : j < l.length := by omega
  refine rd_ixL (atI_nat (j := j) (by simp [hj])) (h3 l[j] (List.getElem_mem hj) (by simp [hj]))
theorem rc_isiBX {d : D} {U : String} (h : ∃ T, tyD d = some T ∧ ∃ b, kitB T U = some b ∧ k (.bl b) n) : RC K w (rIsiU K) [d, .raw (.ty U)] n k := by
  obtain ⟨T, h1, b, h2, h3⟩ := h
  exact isi_bb h1 h2 h3
theorem kit_self {K : PySem.W.Frag} {v : Value} (h : (v == v) = true) : PySem.W.kitOne K v v = some true := by
  unfold PySem.W.kitOne
  rw [if_pos h]
theorem kit_any2 {K : PySem.W.Frag} {T U1 U2 : String} {b1 b2 : Bool} (h1 : kitB T U1 = some b1) (h2 : kitB T U2 = some b2) : PySem.W.kitAny K (.type T) [.type U1, .type U2] = some (b1 || b2) := by
  unfold PySem.W.kitAny
  rw [kit_ty h1]
  cases b1 with
  | true => rfl
  | false =>
    show (match PySem.W.kitOne K (.type T) (.type U2) with | some true => some true | some false => PySem.W.kitAny K (.type T) [] | none => none) = _
    rw [kit_ty h2]
    cases b2 <;> rfl
theorem e_isi2X {U1 U2 : String} (h : WpE K w te ds n fun d n1 => ∃ T, tyD d = some T ∧ ∃ b1, kitB T U1 = some b1 ∧ ∃ b2, kitB T U2 = some b2 ∧ k (.bl (b1 || b2)) n1) : WpE K w (tIsi2 K te (.ty U1) (.ty U2)) ds n k :=
  e_isi2 (t := fun _ => .none) (.ty U1) (.ty U2) (h.imp fun d n1 ⟨T, h1, b1, h2, b2, h3, hk⟩ => ⟨.type T, b1 || b2, fun S H v r => rp_ty r h1, kit_any2 h2 h3, hk⟩)
theorem rd_ixIntsX {ns : List Int} {i : Int} (h : (0 ≤ i ∧ i < ns.length) ∧ ∀ z : Int, z ∈ ns → ns[i.toNat]? = some z → k (.int z) n) : RD K w (rIx K) (.lst (ns.map .int)) (.int i) n k := by
  obtain ⟨⟨h1, h2⟩, h3⟩ := h
  obtain ⟨j, rfl⟩ := Int.eq_ofNat_of_zero_le h1
  have hj : j < ns.length := by omega
  refine rd_ixL (atI_nat (j := j) ?_) (h3 ns[j] (List.getElem_mem hj) (by simp [hj]))
  rw [List.getElem?_map, List.getElem?_eq_getElem hj]; rfl
end
end DW
set_option Elab.async false
set_option maxRecDepth 100000
set_option maxHeartbeats 4000000
set_option linter.all false
set_option autoImplicit false
/-! the pen's cells within the draw -/
namespace DW
variable [Tb]
open PySem PySem.Spec PyProof.Rows L2
section
variable {K : PySem.W.Frag} {w : Option Addr} {S : Addr → Bool} {H H0 H1 H2 H' : Hp} {n m : Nat} {σ : L2.St} {ds : List (Option D)} {ta tb te : TE} {i : Nat} {k : Kn} {ks : KS} {p c : Addr} {ix left : Int} {ns : List Int}
def subS (S : Addr → Bool) (p : Addr) : Addr → Bool := fun a => S a && !decide (a = p)
/-- an expression that reads the pen as a plain list and gives a flat value -/
theorem pen_eval {P : D → Prop} {Q : VK} (ok : OkW K (some p) S H n) (g1 : H p = some (.lst [.ref c, .int ix, .int left])) (g2 : cut S H c = some (.lst (ns.map V.int))) (re : RpE K (some p) S H0 H σ ds) (hi : ds[i]? = some (some (.raw (.ref p))))
    (h : WpE K none te (ds.set i (some (.lst [.lst (ns.map .int), .int ix, .int left]))) n fun d _ => flatD d = true ∧ P d)
    (hq : ∀ (d : D) (H' : Hp), P d → Pres none H H' → OkW K (some p) S H' n → Q (vD d) H') : te σ H Q := by
  have hS := (ok.1 p rfl).1
  have ex : Ex (cut S H) (cut (subS S p) H) := cut_sub (S' := S) (S := subS S p) fun a ha => by
    unfold subS at ha
    simp at ha; exact ha.1
  have pf : subS S p p = false := by unfold subS; simp
  obtain ⟨v0, h1, h2⟩ := re.get i _ hi rfl
  cases h2
  have hlt : i < ds.length := (List.getElem?_eq_some_iff.mp hi).1
  have rp : Rp K (cut (subS S p) H) (.ref p) (.lst [.lst (ns.map .int), .int ix, .int left]) :=
    .lst (cut_mk pf g1) (.cons (.lst (ex _ _ g2) (Rps.of_ints ns)) (.cons (.int _) (.cons (.int _) .nil)))
  have rs : RpE K none (subS S p) (fun a => if a = p then H p else H0 a) H σ ds := by
    refine ⟨re.len, fun j d hj o => ?_, fun j l hj => ?_, re.dis⟩
    · obtain ⟨v, a1, a2⟩ := re.get j d hj o
      exact ⟨v, a1, a2.mono ex⟩
    · obtain ⟨a, xs, b1, b2, b3, b4, b5, b6⟩ := re.own j l hj
      have ne : a ≠ p := fun q => b3.1 (by rw [q])
      exact ⟨a, xs, b1, by unfold subS; simp [b2, ne], ⟨by simp, b3.2⟩, by simp [ne, b4], b5, b6.mono ex⟩
  have rs2 := rs.set (i := i) rp rfl
  have e : σ.set i (some (.ref p)) = σ := by
    apply List.ext_getElem?
    intro j
    by_cases q : i = j
    · subst q
      rw [List.getElem?_set_self (by rw [re.len]; exact hlt)]; exact h1.symm
    · rw [List.getElem?_set_ne q]
  rw [e] at rs2
  have pt := pen_tab ok rfl
  refine h (subS S p) _ σ H Q rs2 ⟨fun q hq => (nomatch hq), fun a ha => ok.2 a (by unfold subS at ha; simp at ha; exact ha.1), fun a ha => ⟨?_, (ok.3 a ha).2⟩, fun a ha => ok.4 a (by unfold subS at ha; simp at ha; exact ha.1)⟩ fun v H' d n' ⟨hf, hP⟩ pr ok' r => ?_
  · have ne : a ≠ p := fun q => by rw [q, pt] at ha; cases ha
    unfold subS; simp [(ok.3 a ha).1, ne]
  obtain ⟨e1, _⟩ := rp_flat r hf
  subst e1
  refine hq d H' hP pr ⟨fun q hq => ⟨(ok.1 q hq).1, ?_⟩, fun a ha => ?_, fun a ha => ⟨(ok.3 a ha).1, (ok'.3 a ha).2⟩, fun a ha => ?_⟩
  · obtain ⟨c, ix, left, ns, h1, h2, h3⟩ := (ok.1 q hq).2
    obtain ⟨z1, z2⟩ := cut_some h2
    exact ⟨c, ix, left, ns, pr.go _ _ ⟨by simp, pen_tab ok hq⟩ h1 rfl, cut_mk z1 (pr.go _ _ ⟨by simp, (ok.w_ne z1).2⟩ z2 rfl), h3⟩
  · obtain ⟨o, ho⟩ := ok.2 a ha
    cases z : H' a with
    | some o' => exact ⟨o', rfl⟩
    | none => rw [pr.back a z] at ho; cases ho
  · by_cases q : a = p
    · subst q; exact .inr ⟨_, pr.go _ _ ⟨by simp, pt⟩ g1 rfl, rfl⟩
    · exact ok'.4 a (by unfold subS; simp [ha, q])
theorem keep_pen (ok : OkW K (some p) S H n) (g1 : H p = some (.lst [.ref c, .int ix, .int left])) (g2 : cut S H c = some (.lst (ns.map V.int))) (kp : Pres none H H') : H' p = some (.lst [.ref c, .int ix, .int left]) ∧ cut S H' c = some (.lst (ns.map V.int)) := by
  obtain ⟨z1, z2⟩ := cut_some g2
  exact ⟨kp.go _ _ ⟨by simp, pen_tab ok rfl⟩ g1 rfl, cut_mk z1 (kp.go _ _ ⟨by simp, (ok.w_ne z1).2⟩ z2 rfl)⟩
/-- if pen[0] != []: cell = pen[0][int(at) % len(pen[0])] -/
theorem s_cell {x : Int} (h : ∃ q, w = some q ∧ ds[0]? = some (some (.raw (.ref q))) ∧ ds[3]? = some (some (.int x)) ∧ (∀ z : Int, ks.nx (ds.set 4 (some (.int z))) n) ∧ ks.nx ds n) :
    WpS K w (tIfS (tTest (tOp (rNeU K) (tOp (rIx K) (tVar 0) (tC (.int 0))) (tLst tNil))) (tAsg (tOp (rIx K) (tOp (rIx K) (tVar 0) (tC (.int 0))) (tOp rModU (tCB rIntU (tCons (tVar 3) tNil)) (tCB (rLenU K) (tCons (tOp (rIx K) (tVar 0) (tC (.int 0))) tNil)))) (gName 4)) tNext) ds n ks := fun S0 H0 S σ H E b r e => by
  obtain ⟨q, rfl, h0, h3, hz, hn⟩ := h
  obtain ⟨hS, c, ix, left, ns, g1, g2, g3, g4, g5, g6⟩ := b.ok.1 q rfl
  have hlt : 0 < ds.length := (List.getElem?_eq_some_iff.mp h0).1
  have d0 : (ds.set 0 (some (D.lst [.lst (ns.map .int), .int ix, .int left])))[0]? = some (some (D.lst [.lst (ns.map .int), .int ix, .int left])) := List.getElem?_set_self hlt
  have d3 : (ds.set 0 (some (D.lst [.lst (ns.map .int), .int ix, .int left])))[3]? = some (some (.int x)) := by rw [List.getElem?_set_ne (by decide)]; exact h3
  show (tOp (rNeU K) (tOp (rIx K) (tVar 0) (tC (.int 0))) (tLst tNil)) σ H _
  refine pen_eval (P := fun d => d = .bl (!decide (ns = []))) b.ok g1 g2 r h0 ?_ fun d H1 hP kp ok1 => ?_
  · refine e_op (e_op (e_var d0 (e_int (rd_ixL rfl (e_lst (a_nil ⟨by decide, rd_neNilX ⟨fun z => ⟨rfl, by simp [z]⟩, fun z => ⟨rfl, by simp [z]⟩⟩⟩))))))
  · subst hP
    refine ⟨!decide (ns = []), rfl, ?_⟩
    have pr1 : Pres (some q) H H1 := ⟨fun a o hf z t => kp.go a o ⟨by simp, hf.2⟩ z t, kp.back⟩
    by_cases hns : ns = []
    · rw [show (!decide (ns = [])) = false by simp [hns]]
      exact e.nx S σ H1 ds n hn (b.up pr1 ok1) (r.up b.ok pr1) (ex_cut b.ok pr1)
    · rw [show (!decide (ns = [])) = true by simp [hns]]
      obtain ⟨k1, k2⟩ := keep_pen b.ok g1 g2 kp
      have hl0 : 0 < ns.length := List.length_pos_iff.mpr hns
      show (tOp (rIx K) (tOp (rIx K) (tVar 0) (tC (.int 0))) (tOp rModU (tCB rIntU (tCons (tVar 3) tNil)) (tCB (rLenU K) (tCons (tOp (rIx K) (tVar 0) (tC (.int 0))) tNil)))) σ H1 _
      refine pen_eval (P := fun d => ∃ z : Int, d = .int z) ok1 k1 k2 (r.up b.ok pr1) h0 ?_ fun d H2 hP kp2 ok2 => ?_
      · refine e_op (e_op (e_var d0 (e_int (rd_ixL rfl ?_))))
        refine e_op (e_cb (a_cons (e_var d3 (a_nil (rc_int ?_)))))
        refine e_cb (a_cons (e_op (e_var d0 (e_int (rd_ixL rfl ?_)))))
        refine a_nil (rc_lenL (rd_modX ⟨?_, rd_ixIntsX ⟨⟨?_, ?_⟩, fun z _ _ => ⟨rfl, z, rfl⟩⟩⟩))
        · rw [List.length_map]; omega
        · exact Int.emod_nonneg _ (by rw [List.length_map]; omega)
        · rw [List.length_map]; exact Int.emod_lt_of_pos _ (by omega)
      · obtain ⟨z, rfl⟩ := hP
        have pr2 : Pres (some q) H1 H2 := ⟨fun a o hf z t => kp2.go a o ⟨by simp, hf.2⟩ z t, kp2.back⟩
        exact e.nx S _ H2 _ n (hz z) ((b.up pr1 ok1).up pr2 ok2) (((r.up b.ok pr1).up ok1 pr2).set (.int z) rfl) ((ex_cut b.ok pr1).trans (ex_cut ok1 pr2))
theorem s_cellX (h : ∃ q, w = some q ∧ ds[0]? = some (some (.raw (.ref q))) ∧ ∃ x, ds[3]? = some (some (.int x)) ∧ (∀ z : Int, ks.nx (ds.set 4 (some (.int z))) n) ∧ ks.nx ds n) :
    WpS K w (tIfS (tTest (tOp (rNeU K) (tOp (rIx K) (tVar 0) (tC (.int 0))) (tLst tNil))) (tAsg (tOp (rIx K) (tOp (rIx K) (tVar 0) (tC (.int 0))) (tOp rModU (tCB rIntU (tCons (tVar 3) tNil)) (tCB (rLenU K) (tCons (tOp (rIx K) (tVar 0) (tC (.int 0))) tNil)))) (gName 4)) tNext) ds n ks := by
  obtain ⟨q, h1, h2, x, h3⟩ := h
  exact s_cell ⟨q, h1, h2, h3⟩
end
end DW
set_option Elab.async false
set_option maxRecDepth 100000
set_option maxHeartbeats 4000000
set_option linter.all false
set_option autoImplicit false
/-! comprehensions over ints, pure ones -/
namespace DW
variable [Tb]
open PySem PySem.Spec PyProof.Rows L2
section
variable {K : PySem.W.Frag} {w : Option Addr} {n m : Nat} {ds : List (Option D)} {ta tb te : TE} {i : Nat} {k : Kn} {ks : KS} {wi : TI} {tt : TT}
theorem t_yes {k : Bool → Nat → Prop} (h : k true n) : WpT K w tYes ds n k := fun S H0 σ H Q re ok p => p true H n h Pres.refl ok
theorem WpI.imp {k k' : List D → Nat → Prop} (h : WpI K w wi ds n k) (hk : ∀ l n, k l n → k' l n) : WpI K w wi ds n k' := fun S H0 σ H R re ok p => h S H0 σ H R re ok fun J H1 items n1 hk1 pr ok1 wk => p J H1 items n1 (hk _ _ hk1) pr ok1 wk
theorem WpT.imp {k k' : Bool → Nat → Prop} (h : WpT K w tt ds n k) (hk : ∀ l n, k l n → k' l n) : WpT K w tt ds n k' := fun S H0 σ H R re ok p => h S H0 σ H R re ok fun b H1 n1 hk1 pr ok1 => p b H1 n1 (hk _ _ hk1) pr ok1
theorem f_lcI {k : List D → Nat → Prop} {P : Int → Bool} {f : Int → D} (h : WpI K w wi ds n fun items n1 => ∃ ns : List Int, items = ns.map .int ∧ ns.length ≤ 100000 ∧
      (∀ z, z ∈ ns → WpT K w tt (ds.set i (some (.int z))) n1 fun b n2 => b = P z ∧ n2 = n1 ∧ (b = true → WpE K w te (ds.set i (some (.int z))) n1 fun d n3 => d = f z ∧ n3 = n1)) ∧ k ((ns.filter P).map f) n1) :
    WpF K w (tLc wi (gName i) tt te [i]) ds n k := by
  refine f_lc (h.imp fun items n1 ⟨ns, e, hz, hb, hk⟩ => ?_)
  subst e
  refine ⟨by rw [List.length_map]; exact hz, fun j acc n' => n' = n1 ∧ acc = ((ns.take j).filter P).map f, ⟨rfl, by simp⟩, fun j x acc n' hx ⟨e1, e2⟩ => ?_, fun acc n' ⟨e1, e2⟩ => ?_⟩
  · subst e1 e2
    rw [List.getElem?_map] at hx
    obtain ⟨z, hz1, hz2⟩ := Option.map_eq_some_iff.mp hx
    subst hz2
    have hmem := List.mem_of_getElem? hz1
    have hj : j < ns.length := (List.getElem?_eq_some_iff.mp hz1).1
    have hgz : ns[j] = z := (List.getElem?_eq_some_iff.mp hz1).2
    have et : ns.take (j + 1) = ns.take j ++ [z] := by rw [List.take_succ, hz1]; rfl
    have ed : (dwipe ds [i]).set i (some (.int z)) = ds.set i (some (.int z)) := by
      show ((dwipe ds []).set i none).set i _ = _
      rw [List.set_set]; rfl
    refine ⟨_, g_name rfl, ?_⟩
    rw [ed]
    refine (hb z hmem).imp fun b n2 ⟨e1, e2, hb2⟩ => ?_
    subst e2
    refine ⟨fun hbt => (hb2 hbt).imp fun d n3 ⟨e3, e4⟩ => ⟨e4, ?_⟩, fun hbf => ⟨rfl, ?_⟩⟩
    · rw [et, List.filter_append, List.map_append, e3]
      congr 1
      rw [List.filter_cons, ← e1, hbt]; rfl
    · rw [et, List.filter_append, List.map_append]
      rw [show List.filter P [z] = [] by rw [List.filter_cons, ← e1, hbf]; rfl]
      simp
  · subst e1 e2
    rw [List.length_map, List.take_length]
    exact hk
theorem e_lcIX (h : ∃ (P : Int → Bool) (f : Int → D), WpI K w wi ds n fun items n1 => ∃ ns : List Int, items = ns.map .int ∧ ns.length ≤ 100000 ∧
      (∀ z, z ∈ ns → WpT K w tt (ds.set i (some (.int z))) n1 fun b n2 => b = P z ∧ n2 = n1 ∧ (b = true → WpE K w te (ds.set i (some (.int z))) n1 fun d n3 => d = f z ∧ n3 = n1)) ∧ k (.lst ((ns.filter P).map f)) n1) :
    WpE K w (tLc wi (gName i) tt te [i]) ds n k := by
  obtain ⟨P, f, h⟩ := h
  exact WpF.toE (k := k) (f_lcI h)
/-- iterables that stand in a slot -/
theorem i_listV {j : Nat} {k : List D → Nat → Prop} (h : ∃ l, ds[j]? = some (some (.lst l)) ∧ k l n) : WpI K w (iSeq K (tVar j)) ds n k := by
  obtain ⟨l, h1, h2⟩ := h
  exact i_list (e_var h1 ⟨l, rfl, h2⟩)
theorem i_tupV {j : Nat} {k : List D → Nat → Prop} (h : ∃ l, ds[j]? = some (some (.tup l)) ∧ k l n) : WpI K w (iSeq K (tVar j)) ds n k := by
  obtain ⟨l, h1, h2⟩ := h
  exact i_tup (e_var h1 ⟨l, rfl, h2⟩)
theorem e_slLV {tl th : TO} {j : Nat} (h : ∃ l, ds[j]? = some (some (.lst l)) ∧ WpO K w tl ds n fun lo n2 => WpO K w th ds n2 fun hi n3 => k (.lst (cutD l lo hi)) n3) : WpE K w (tSl (rSlU K) (tVar j) tl th) ds n k := by
  obtain ⟨l, h1, h2⟩ := h
  exact e_slL (e_var h1 ⟨l, rfl, h2⟩)
theorem e_slTV {tl th : TO} {j : Nat} (h : ∃ l, ds[j]? = some (some (.tup l)) ∧ WpO K w tl ds n fun lo n2 => WpO K w th ds n2 fun hi n3 => k (.tup (cutD l lo hi)) n3) : WpE K w (tSl (rSlU K) (tVar j) tl th) ds n k := by
  obtain ⟨l, h1, h2⟩ := h
  exact e_slT (e_var h1 ⟨l, rfl, h2⟩)
theorem cutD_to {l : List D} {j : Nat} (h : j ≤ l.length) : cutD l none (some (j : Int)) = l.take j := by
  unfold cutD
  rw [HT.sIx_none, HT.sIx_nat, Nat.min_eq_left h]
  simp
theorem cutD_from {l : List D} {j : Nat} (h : j ≤ l.length) : cutD l (some (j : Int)) none = l.drop j := by
  unfold cutD
  rw [HT.sIx_none, HT.sIx_nat, Nat.min_eq_left h]
  rw [List.take_of_length_le (by rw [List.length_drop]; omega)]
theorem rc_allX {ns : List Int} {q : Int → Bool} (hk : k (.bl (ns.all q)) n) : RC K w (rAll K) [.lst (ns.map fun z => D.bl (q z))] n k := by
  have e : (ns.map fun z => D.bl (q z)) = (ns.map q).map D.bl := by rw [List.map_map]; rfl
  rw [e]
  refine rc_all ?_
  rw [List.all_map]
  exact hk
theorem rc_anyX {ns : List Int} {q : Int → Bool} (hk : k (.bl (ns.any q)) n) : RC K w (rAny K) [.lst (ns.map fun z => D.bl (q z))] n k := by
  have e : (ns.map fun z => D.bl (q z)) = (ns.map q).map D.bl := by rw [List.map_map]; rfl
  rw [e]
  refine rc_any ?_
  rw [List.any_map]
  exact hk
/-- all([test(z) for z in zs]), the zip of zs and zs[1:] with a test of the pair -/
theorem f_lcZip {k : List D → Nat → Prop} {i j : Nat} {f : Int → Int → D} (hij : i ≠ j) (h : WpI K w wi ds n fun items n1 => ∃ ps : List (Int × Int), items = ps.map (fun p => D.tup [.int p.1, .int p.2]) ∧ ps.length ≤ 100000 ∧
      (∀ p, p ∈ ps → WpE K w te ((((dwipe ds [i, j]).set i (some (.int p.1))).set j (some (.int p.2)))) n1 fun d n3 => d = f p.1 p.2 ∧ n3 = n1) ∧ k (ps.map fun p => f p.1 p.2) n1) :
    WpF K w (tLc wi (gTup K 2 (gCons (gName i) (gCons (gName j) gNil))) tYes te [i, j]) ds n k := by
  refine f_lc (h.imp fun items n1 ⟨ps, e, hz, hb, hk⟩ => ?_)
  subst e
  refine ⟨by rw [List.length_map]; exact hz, fun j acc n' => n' = n1 ∧ acc = (ps.take j).map fun p => f p.1 p.2, ⟨rfl, by simp⟩, fun q x acc n' hx ⟨e1, e2⟩ => ?_, fun acc n' ⟨e1, e2⟩ => ?_⟩
  · subst e1 e2
    rw [List.getElem?_map] at hx
    obtain ⟨z, hz1, hz2⟩ := Option.map_eq_some_iff.mp hx
    subst hz2
    have hmem := List.mem_of_getElem? hz1
    have et : ps.take (q + 1) = ps.take q ++ [z] := by rw [List.take_succ, hz1]; rfl
    refine ⟨_, g_tup (gs_cons (g_name rfl) (gs_cons (g_name rfl) gs_nil)) rfl, t_yes ⟨fun _ => (hb z hmem).imp fun d n3 ⟨e3, e4⟩ => ⟨e4, ?_⟩, fun z => (nomatch z)⟩⟩
    rw [et, List.map_append, e3]; rfl
  · subst e1 e2
    rw [List.length_map, List.take_length]
    exact hk
end
end DW
namespace DW
variable [Tb]
open PySem PySem.Spec PyProof.Rows L2
section
variable {K : PySem.W.Frag} {w : Option Addr} {n m : Nat} {ds : List (Option D)} {k : Kn}
theorem inV_ints {i : Int} : ∀ ns : List Int, inV (vD (.int i)) ((ns.map D.int).map vD) = decide (i ∈ ns)
  | [] => rfl
  | a :: r => by
    have ih := inV_ints (i := i) r
    unfold inV at ih ⊢
    rw [List.map_cons, List.map_cons, List.any_cons, ih]
    show (eqV (.int a) (.int i) || decide (i ∈ r)) = decide (i ∈ a :: r)
    have e : eqV (.int a) (.int i) = decide (a = i) := by
      first
        | rfl
        | (unfold eqV; by_cases h : a = i <;> simp [h])
    rw [e]
    by_cases h : a = i
    · subst h; simp
    · have h' : ¬ i = a := fun z => h z.symm
      simp [h, h']
theorem rd_inIntsX {ns : List Int} {i : Int} (hk : k (.bl (decide (i ∈ ns))) n) : RD K w (rInU K false) (.int i) (.lst (ns.map .int)) n k := by
  refine RD.inU (rd_inL rfl (by simp [flatD]) ?_)
  rw [if_neg (by decide), inV_ints]
  exact hk
/-- what of the text a class must have whose instances' fields are read and written -/
structure ClT (K : PySem.W.Frag) (C : Addr) (fs : List Str) : Prop where
  cls : Cls K C
  na : ∀ f ∈ fs, NoAttr K C f
/-- o.f, o in a slot, an instance with all fields known -/
theorem e_fldX {f : Str} {j : Nat} (h : ∃ C ns l, ds[j]? = some (some (.obj C ns l)) ∧ ClT K C ns ∧ f ∈ ns ∧ ∃ e, (ns.zip l).lookup f = some e ∧ k e n) : WpE K w (tFld K (tVar j) f) ds n k := by
  obtain ⟨C, ns, l, h1, T, hf, e, h2, h3⟩ := h
  exact e_fld (e_var h1 ⟨C, ns, l, e, rfl, T.cls, T.na f hf, h2, h3⟩)
end
end DW
set_option Elab.async false
set_option maxRecDepth 100000
set_option maxHeartbeats 4000000
set_option linter.all false
set_option autoImplicit false
/-! comprehensions over anything; own lists frozen -/
namespace DW
variable [Tb]
open PySem PySem.Spec PyProof.Rows L2
section
variable {K : PySem.W.Frag} {w : Option Addr} {S S0 : Addr → Bool} {H H0 : Hp} {n m : Nat} {ds : List (Option D)} {ta tb te : TE} {i : Nat} {k : Kn} {ks : KS} {wi : TI} {tt : TT} {t : TS}
theorem f_lcG {α : Type} {φ : α → D} (hφ : ∀ x, isOwn (φ x) = false) {k : List D → Nat → Prop} {P : α → Bool} {f : α → D} (h : WpI K w wi ds n fun items n1 => ∃ ns : List α, items = ns.map φ ∧ ns.length ≤ 100000 ∧
      (∀ z, z ∈ ns → WpT K w tt (ds.set i (some (φ z))) n1 fun b n2 => b = P z ∧ n2 = n1 ∧ (b = true → WpE K w te (ds.set i (some (φ z))) n1 fun d n3 => d = f z ∧ n3 = n1)) ∧ k ((ns.filter P).map f) n1) :
    WpF K w (tLc wi (gName i) tt te [i]) ds n k := by
  refine f_lc (h.imp fun items n1 ⟨ns, e, hz, hb, hk⟩ => ?_)
  subst e
  refine ⟨by rw [List.length_map]; exact hz, fun j acc n' => n' = n1 ∧ acc = ((ns.take j).filter P).map f, ⟨rfl, by simp⟩, fun j x acc n' hx ⟨e1, e2⟩ => ?_, fun acc n' ⟨e1, e2⟩ => ?_⟩
  · subst e1 e2
    rw [List.getElem?_map] at hx
    obtain ⟨z, hz1, hz2⟩ := Option.map_eq_some_iff.mp hx
    subst hz2
    have hmem := List.mem_of_getElem? hz1
    have et : ns.take (j + 1) = ns.take j ++ [z] := by rw [List.take_succ, hz1]; rfl
    have ed : (dwipe ds [i]).set i (some (φ z)) = ds.set i (some (φ z)) := by
      show ((dwipe ds []).set i none).set i _ = _
      rw [List.set_set]; rfl
    refine ⟨_, g_name (hφ z), ?_⟩
    rw [ed]
    refine (hb z hmem).imp fun b n2 ⟨e1, e2, hb2⟩ => ?_
    subst e2
    refine ⟨fun hbt => (hb2 hbt).imp fun d n3 ⟨e3, e4⟩ => ⟨e4, ?_⟩, fun hbf => ⟨rfl, ?_⟩⟩
    · rw [et, List.filter_append, List.map_append, e3]
      congr 1
      rw [List.filter_cons, ← e1, hbt]; rfl
    · rw [et, List.filter_append, List.map_append]
      rw [show List.filter P [z] = [] by rw [List.filter_cons, ← e1, hbf]; rfl]
      simp
  · subst e1 e2
    rw [List.length_map, List.take_length]
    exact hk
theorem e_lcGX {α : Type} (h : ∃ (φ : α → D) (P : α → Bool) (f : α → D), (∀ x, isOwn (φ x) = false) ∧ WpI K w wi ds n fun items n1 => ∃ ns : List α, items = ns.map φ ∧ ns.length ≤ 100000 ∧
      (∀ z, z ∈ ns → WpT K w tt (ds.set i (some (φ z))) n1 fun b n2 => b = P z ∧ n2 = n1 ∧ (b = true → WpE K w te (ds.set i (some (φ z))) n1 fun d n3 => d = f z ∧ n3 = n1)) ∧ k (.lst ((ns.filter P).map f)) n1) :
    WpE K w (tLc wi (gName i) tt te [i]) ds n k := by
  obtain ⟨φ, P, f, h0, h⟩ := h
  exact WpF.toE (k := k) (f_lcG h0 h)
/-- an own list that is changed no more -/
theorem s_freeze {l : List D} (hi : ds[i]? = some (some (.own l))) (h : WpS K w t (ds.set i (some (.lst l))) n ks) : WpS K w t ds n ks := fun S0 H0 S σ H E b r e => by
  obtain ⟨a, xs, h1, h2, h3, h4, h5, h6⟩ := r.own i l hi
  have hlt : i < ds.length := (List.getElem?_eq_some_iff.mp hi).1
  have sub : ∀ c, subS S a c = true → S c = true := fun c hc => by unfold subS at hc; simp at hc; exact hc.1
  have ex : Ex (cut S H) (cut (subS S a) H) := cut_sub sub
  have af : subS S a a = false := by unfold subS; simp
  have aS0 : S0 a = false := by
    cases q : S0 a with
    | false => rfl
    | true =>
      obtain ⟨o, z⟩ := b.old a q
      rw [h4] at z; cases z
  have mem : ∀ c, c ≠ a → S c = true → subS S a c = true := fun c hc z => by unfold subS; simp [z, hc]
  have b' : Base w K S0 H0 (subS S a) H n := by
    refine ⟨b.pres, b.ok.less sub (fun p hp => mem p (fun q => h3.1 (by rw [hp, q])) (b.ok.1 p hp).1) (fun c hc => mem c (fun q => by subst q; rw [h3.2] at hc; cases hc) (b.ok.3 c hc).1), fun c hc => mem c (fun q => by rw [q, aS0] at hc; cases hc) (b.sub c hc), fun c hc => b.new c (sub c hc), b.pen, b.old, b.tab⟩
  have rp : Rp K (cut (subS S a) H) (.ref a) (.lst l) := .lst (cut_mk af h5) (h6.mono ex)
  have r' : RpE K w (subS S a) H0 H (σ.set i (some (.ref a))) (ds.set i (some (.lst l))) := by
    refine ⟨by simp [r.len], fun j d hj o => ?_, fun j m hj => ?_, fun j q l1 l2 c hjq g1 g2 g3 => ?_⟩
    · by_cases hij : i = j
      · subst hij
        rw [List.getElem?_set_self hlt] at hj; cases hj
        exact ⟨.ref a, by rw [List.getElem?_set_self (by rw [r.len]; exact hlt)], rp⟩
      · rw [List.getElem?_set_ne hij] at hj ⊢
        obtain ⟨v, g1, g2⟩ := r.get j d hj o
        exact ⟨v, g1, g2.mono ex⟩
    · by_cases hij : i = j
      · subst hij
        rw [List.getElem?_set_self hlt] at hj; cases hj
      · rw [List.getElem?_set_ne hij] at hj ⊢
        obtain ⟨c, ys, g1, g2, g3, g4, g5, g6⟩ := r.own j m hj
        have ne : c ≠ a := fun q => by
          subst q
          exact r.dis i j l m c hij hi hj h1 g1
        exact ⟨c, ys, g1, mem c ne g2, g3, g4, g5, g6.mono ex⟩
    · have nj : i ≠ j := fun z => by
        subst z
        rw [List.getElem?_set_self hlt] at g1; cases g1
      have nq : i ≠ q := fun z => by
        subst z
        rw [List.getElem?_set_self hlt] at g2; cases g2
      rw [List.getElem?_set_ne nj] at g1 g3
      rw [List.getElem?_set_ne nq] at g2 ⊢
      exact r.dis j q l1 l2 c hjq g1 g2 g3
  have eσ : σ.set i (some (.ref a)) = σ := by
    apply List.ext_getElem?
    intro j
    by_cases q : i = j
    · subst q
      rw [List.getElem?_set_self (by rw [r.len]; exact hlt)]; exact h1.symm
    · rw [List.getElem?_set_ne q]
  rw [eσ] at r'
  exact h S0 H0 (subS S a) σ H E b' r' (e.from ex)
theorem s_appX (h : ∃ l, ds[i]? = some (some (.own l)) ∧ WpE K w te ds n fun d n1 => l.length < 100000 ∧ ks.nx (ds.set i (some (.own (l ++ [d])))) n1) : WpS K w (tDrop (tBM K "list" rAppend (tVar i) (tCons te tNil))) ds n ks := by
  obtain ⟨l, h1, h2⟩ := h
  exact s_app h1 h2
theorem inV_strs {x : Str} : ∀ xs : List Str, inV (vD (.str x)) ((xs.map D.str).map vD) = decide (x ∈ xs)
  | [] => rfl
  | a :: r => by
    have ih := inV_strs (x := x) r
    unfold inV at ih ⊢
    rw [List.map_cons, List.map_cons, List.any_cons, ih]
    show (eqV (.str a) (.str x) || decide (x ∈ r)) = decide (x ∈ a :: r)
    have e : eqV (.str a) (.str x) = decide (a = x) := by
      first
        | rfl
        | (unfold eqV; by_cases h : a = x <;> simp [h])
    rw [e]
    by_cases h : a = x
    · subst h; simp
    · have h' : ¬ x = a := fun z => h z.symm
      simp [h, h']
theorem rd_ninStrs {x : Str} {xs : List Str} (hk : k (.bl (!decide (x ∈ xs))) n) : RD K w (rInU K true) (.str x) (.tup (xs.map .str)) n k := by
  refine RD.inU (rd_inT rfl (by simp [flatD]) ?_)
  rw [if_pos rfl, inV_strs]
  exact hk
theorem rd_addLX {i j : List D} (h : i.length + j.length ≤ 100000 ∧ k (.lst (i ++ j)) n) : RD K w (rAddU K) (.lst i) (.lst j) n k := rd_addL h.1 h.2
theorem rd_addTX {i j : List D} (h : i.length + j.length ≤ 100000 ∧ k (.tup (i ++ j)) n) : RD K w (rAddU K) (.tup i) (.tup j) n k := rd_addT h.1 h.2
theorem rd_addSX {i j : Str} (h : i.length + j.length ≤ 100000 ∧ k (.str (i ++ j)) n) : RD K w (rAddU K) (.str i) (.str j) n k := rd_addS h.1 h.2
theorem rgD_ints (lo : Int) (c : Nat) : rgD lo c = ((List.range c).map fun i => lo + (i : Nat)).map D.int := by unfold rgD; rw [List.map_map]; rfl
end
end DW
set_option Elab.async false
set_option maxRecDepth 100000
set_option maxHeartbeats 4000000
set_option linter.all false
set_option autoImplicit false
/-! the law's own call, where the law asks for a repr: it stands at the caller's place, no container is being told there -/
namespace DW
variable [Tb]
open PySem PySem.Spec PyProof.Rows L2

/-- a def's promise at the caller's place alone; Ps: the tables that may grow -/
def AtCaller (P : Program) (w : World) (K : PySem.W.Frag) (mg : Str → Option Value) (Ps : List Addr) (fa : Addr) (sp : Sp) : Prop :=
  ∀ (base : Heap) (s : Shared) (H : Hp) (us : List Value) (vs : List V) (Q : VK) (E : XK), (∀ T ∈ Ps, base.BuiltinsAt mg T ∧ mainGlobals ≠ T) → Env0 P w K mg base callerA [] s H → Vals vs us → sp vs H Q E → codeAny (model P w) callerA (.call (.ref fa) ⟨us, []⟩) (CR CX0 [] P w H s Q E) s
abbrev emptyTab : Obj := { cls := .none, data := .fields #[] }
/-- the tables are tracked, too -/
def withTabs (H : Hp) (Ps : List Addr) : Hp := fun b => if b ∈ Ps then some (.tbl #[]) else H b
section
variable {P : Program} {w : World} {K : PySem.W.Frag} {mg mb : Str → Option Value} {fa a : Addr} {sp : Sp} {s₁ : Shared} {vs : List Value} {ns : List Int} {Ps : List Addr}
theorem wt_in {H : Hp} {b : Addr} (h : b ∈ Ps) : withTabs H Ps b = some (.tbl #[]) := if_pos h
theorem wt_out {H : Hp} {b : Addr} (h : b ∉ Ps) : withTabs H Ps b = H b := if_neg h
/-- where the script stands: it is tracked, or an object of the module -/
theorem script_heap (KX : K.In s₁.heap) (ha : s₁.heap.get? a = some { cls := .type "list", data := .seq vs.toArray }) (hi : IntsAre vs ns) (hl : ns.length ≤ sizeLine) :
    ∃ H : Hp, Only H ∧ SqL K H a (ns.map V.int) ∧ HOk P w H s₁.heap ∧ (∀ b, H b ≠ none → b = a) ∧ (H a ≠ none → K.lookup a = none) := by
  have rv := vals_ints hi
  cases hk : K.lookup a with
  | some o =>
    have e : s₁.heap.get? a = some o := KX a o hk
    obtain rfl : o = { cls := .type "list", data := .seq vs.toArray } := by rw [ha] at e; exact (Option.some.inj e).symm
    exact ⟨fun _ => none, fun _ => .inl rfl, .inr ⟨_, vs.toArray, _, hk, rfl, rfl, rfl, by rw [List.size_toArray, hi.length]; exact hl, by simpa using rv⟩, fun b u z => absurd (show (none : Option HO) = some u from z) (by simp), fun _ z => absurd rfl z, fun z => absurd rfl z⟩
  | none =>
    refine ⟨fun b => if b = a then some (.frz { cls := .type "list", data := .seq vs.toArray } (.lst (ns.map V.int))) else none, fun b => ?_, .inl (.inr ⟨_, if_pos rfl⟩), fun b u z => ?_, fun b z => ?_, fun _ => rfl⟩
    · by_cases q : b = a
      · right; exact ⟨_, _, if_pos q⟩
      · left; exact if_neg q
    · by_cases q : b = a
      · subst q
        dsimp only at z
        rw [if_pos rfl] at z
        cases z
        exact ⟨ha, by rw [List.length_map]; exact hl, vs, _, rv, ha⟩
      · dsimp only at z; rw [if_neg q] at z; cases z
    · by_cases q : b = a
      · exact q
      · dsimp only at z; rw [if_neg q] at z; exact absurd rfl z
theorem law_at (KX : K.In s₁.heap) (hns : s₁.heap.Ns mainGlobals mg) (hb : s₁.heap.Ns builtinsNs mb) (hbb : ∀ x : Str, x ≠ "__name__" → mb x = bootBuiltins x) (hlim : s₁.heap.NoLimit) (hg : s₁.gens = #[])
    (hT : ∀ T ∈ Ps, s₁.heap.get? T = some emptyTab ∧ K.lookup T = none ∧ isCodeTable s₁.heap T) (hbm : ∀ T ∈ Ps, s₁.heap.BuiltinsAt mg T)
    (ha : s₁.heap.get? a = some { cls := .type "list", data := .seq vs.toArray }) (hi : IntsAre vs ns) (hl : ns.length ≤ sizeLine) (F : AtCaller P w K mg Ps fa sp)
    (hsp : ∀ H : Hp, (∀ T ∈ Ps, H T = some (.tbl #[])) → SqL K H a (ns.map V.int) → sp [.ref a] H (fun v _ => v = .bl true) fun _ _ _ => False) :
    codeAny (model P w) callerA (.call (.ref fa) ⟨[.ref a], []⟩) (fun r s' => r = .ok (.ret (.bool true)) ∧ OldK s₁.heap s'.heap ∧ s'.os = s₁.os ∧ AllBare s'.gens) s₁ := by
  obtain ⟨H0, hO, hS0, hok0, hA, hK⟩ := script_heap (P := P) (w := w) KX ha hi hl
  have aT : a ∉ Ps := fun z => by
    have q := (hT a z).1
    rw [ha] at q
    exact absurd (congrArg Obj.cls (Option.some.inj q)) (by simp)
  have hH : ∀ T ∈ Ps, withTabs H0 Ps T = some (.tbl #[]) := fun T h => wt_in h
  -- what the abstract heap tracks is the script and the tables
  have trk2 : ∀ {b : Addr} {u : HO}, withTabs H0 Ps b = some u → b ∈ Ps ∨ (b = a ∧ b ∉ Ps ∧ H0 b = some u) := fun {b u} h => by
    by_cases q : b ∈ Ps
    · exact .inl q
    · rw [wt_out q] at h
      exact .inr ⟨hA b (by rw [h]; exact fun z => nomatch z), q, h⟩
  have free : ∀ {b : Addr} {o : Obj}, s₁.heap.get? b = some o → (∀ its n, o.data ≠ .seq its n) → (o.data ≠ .fields #[]) → withTabs H0 Ps b = none := fun {b o} e h h' => by
    cases q : withTabs H0 Ps b with
    | none => rfl
    | some u =>
      rcases trk2 q with z | ⟨z, _, _⟩
      · have := (hT b z).1
        rw [e] at this
        exact absurd (congrArg Obj.data (Option.some.inj this)) h'
      · subst z
        obtain rfl : o = { cls := .type "list", data := .seq vs.toArray } := Option.some.inj (e.symm.trans ha)
        exact absurd rfl (h vs.toArray _)
  have dictNs : ∀ {b : Addr} {m : Str → Option Value}, s₁.heap.Ns b m → (hidT s₁.heap (withTabs H0 Ps)).Ns b m := fun {b m} h => by
    obtain ⟨o, es, ep, e, d, r⟩ := h
    exact ⟨o, es, ep, hidT_get e (free e (fun its n z => by rw [d] at z; cases z) fun z => by rw [d] at z; cases z), d, r⟩
  have inB : K.In (hidT s₁.heap (withTabs H0 Ps)) := fun b o e => by
    refine hidT_get (KX b o e) ?_
    cases q : withTabs H0 Ps b with
    | none => rfl
    | some u =>
      rcases trk2 q with z | ⟨z, _, z3⟩
      · rw [(hT b z).2.1] at e; cases e
      · subst z
        rw [hK (by rw [z3]; exact fun z => nomatch z)] at e; cases e
  have hS : SqL K (withTabs H0 Ps) a (ns.map V.int) := by
    rcases hS0 with z | z
    · exact .inl (by rcases z with z | ⟨o, z⟩; · exact .inl (by rw [wt_out aT]; exact z)
                     · exact .inr ⟨o, by rw [wt_out aT]; exact z⟩)
    · exact .inr z
  have hok : HOk P w (withTabs H0 Ps) s₁.heap := fun b u h => by
    rcases trk2 h with z | ⟨z, nz, z3⟩
    · rw [wt_in z] at h; cases h
      exact (hT b z).1
    · have x := hok0 b u z3
      rcases hO b with y | ⟨ob, xs, y⟩
      · rw [y] at z3; cases z3
      · rw [y] at z3; cases z3
        obtain ⟨x1, x2, vs', c, x3, x4⟩ := x
        exact ⟨x1, x2, vs', c, x3, x4⟩
  obtain ⟨mc, hc1, hc2⟩ := hlim
  have md : Mod K mg (hidT s₁.heap (withTabs H0 Ps)) := { kin := inB, glob := dictNs hns, blt := ⟨mb, dictNs hb, hbb⟩, nolimit := ⟨mc, dictNs hc1, hc2⟩ }
  have e0 : Env0 P w K mg (hidT s₁.heap (withTabs H0 Ps)) callerA [] s₁ (withTabs H0 Ps) := by
    refine ⟨rfl, md, fun b o e => of_hidT e, ?_, trivial, fun b hb => ?_, hok, .of_eq hg⟩
    · rw [hidT_size]; exact Nat.le_refl _
    · exact absurd (show b ∈ ([] : List Addr) from hb) List.not_mem_nil
  have tb : ∀ T ∈ Ps, (hidT s₁.heap (withTabs H0 Ps)).BuiltinsAt mg T ∧ mainGlobals ≠ T := fun T hTm => by
    refine ⟨?_, fun z => ?_⟩
    · obtain ⟨bm, ob, b1, b2, b3, b4, b5, b6, b7, b8⟩ := hbm T hTm
      refine ⟨bm, ob, b1, b2, b3, b4, hidT_get b5 (free b5 (fun its n z => by rw [b8] at z; cases z) fun z => by rw [b8] at z; cases z), b6, b7, b8⟩
    · obtain ⟨o, es, ep, e, d, _⟩ := hns
      rw [z, (hT T hTm).1] at e
      cases e; cases d
  refine codeAny_mono (F _ s₁ _ [.ref a] [.ref a] _ _ tb e0 (.cons rfl .nil) (hsp _ hH hS)) fun r s' h => ?_
  match r, h with
  | .ok (.ret u), h =>
    obtain ⟨v, H', os, bare, un, hok', r', q⟩ := h
    obtain rfl : v = V.bl true := q
    obtain rfl : u = Value.bool true := r'
    have stay : ∀ b o, b ∉ Ps → s₁.heap.get? b = some o → s'.heap.get? b = some o := fun b o nb e => by
      rcases hO b with z | ⟨ob, xs, z⟩
      · exact un.keep b o e (by rw [wt_out nb]; exact z) (fun y => absurd (show b ∈ ([] : List Addr) from y) List.not_mem_nil) List.not_mem_nil
      · have z' : withTabs H0 Ps b = some (.frz ob (.lst xs)) := by rw [wt_out nb]; exact z
        obtain ⟨e1, _⟩ := hok b _ z'
        obtain ⟨e2, _⟩ := hok' b _ (un.frzs b ob _ z')
        rw [Option.some.inj (e.symm.trans e1)]; exact e2
    have grown : ∀ T ∈ Ps, ∃ more : Array Value, s'.heap.get? T = some { cls := .none, data := .fields more } := fun T h => by
      obtain ⟨more, z⟩ := un.tbls T #[] (hH T h)
      exact ⟨_, hok' T _ z⟩
    refine ⟨rfl, ⟨fun b o e => ?_, fun b o e => ?_⟩, os, bare⟩
    · by_cases hb : b ∈ Ps
      · obtain ⟨more, hm⟩ := grown b hb
        obtain rfl : o = emptyTab := Option.some.inj (e.symm.trans (hT b hb).1)
        exact .inr (.inl ⟨(hT b hb).2.2, rfl, #[], more, rfl, by rw [Array.empty_append]; exact hm⟩)
      · exact .inl (stay b o hb e)
    · by_cases hb : b ∈ Ps
      · obtain ⟨more, hm⟩ := grown b hb
        exact ⟨_, hm⟩
      · exact ⟨o, stay b o hb e⟩
/-- the table of a def of the module, empty as yet -/
def OwnTabX (K : PySem.W.Frag) (mg : Str → Option Value) (h : Heap) (x : Str) : Prop := ∀ (f c T : Addr) (o : Obj) (fd : FuncData) (e : Value) (dd : Option Addr) (vs : Array Value) (sl : Array (Option Value)),
  mg x = some (.ref f) → K.lookup f = some o → o.data = .func fd → fd.code = .ref c → K.lookup c = some ⟨e, dd, .fields vs, sl⟩ → vs[11]? = some (.ref T) → h.get? T = some emptyTab ∧ isCodeTable h T ∧ h.BuiltinsAt mg T
theorem walk_at {l : PySem.W.OpenLaw} {n : Nat} {q : Program} {loose : List Str} {XP : (Str → Option Value) → Heap → Prop} {YP : World → Heap → Prop} {d : DefRec} {KP : Params → PySem.W.Frag} (hn : l.most = some n) (hn2 : n ≤ sizeLine) (hdf : d.params.defaults = [])
    (hY : ∀ (w : World) (h : Heap), YP w h → (KP w.params).In h)
    (F : ∀ (w : World) (mg : Str → Option Value) (fa : Addr) (h : Heap), (KP w.params).In h → h.Ns mainGlobals mg → mg d.name = some (.ref fa) → (∀ x : Str, ((recsOf q).any fun e => e.name == x) = true → OwnTabX (KP w.params) mg h x) →
      ∃ (Ps : List Addr) (sp : Sp), (∀ T ∈ Ps, h.get? T = some emptyTab ∧ (KP w.params).lookup T = none ∧ isCodeTable h T) ∧ (∀ T ∈ Ps, h.BuiltinsAt mg T) ∧ AtCaller l.prog w (KP w.params) mg Ps fa sp ∧
        ∀ (H : Hp) (a : Addr) (ns : List Int), ns.length ≤ n → (∀ T ∈ Ps, H T = some (.tbl #[])) → SqL (KP w.params) H a (ns.map V.int) → sp [.ref a] H (fun v _ => v = .bl true) fun _ _ _ => False) :
    PySem.W.WalkO q loose XP YP l.row.toRowW d [] (fun f vs => PySem.call f vs) := by
  refine Att.attach_call hn hdf fun w s₀ s₁ mg mb fa o pm cd doc a vs ns G Y _ _ _ hmg hobj hints hlen hg => ?_
  have KX := hY w _ Y
  obtain ⟨Ps, sp, hT, hbm, hF, hsp⟩ := F w mg fa _ KX G.T.g hmg fun x hx f c T o1 fd1 e dd us sl k0 k1 k2 k3 k4 k5 => by
    obtain ⟨dL, hm, hn1⟩ := List.any_eq_true.mp hx
    obtain rfl : dL.name = x := beq_iff_eq.mp hn1
    obtain ⟨a', o', fd', c', P', h1, h2, h3, h4, h5, h6⟩ := G.T.tab dL hm
    obtain rfl : f = a' := by rw [k0] at h1; cases h1; rfl
    obtain rfl : o1 = o' := Option.some.inj ((KX _ _ k1).symm.trans h2)
    obtain rfl : fd1 = fd' := by rw [k2] at h3; cases h3; rfl
    obtain rfl : c = c' := by rw [k3] at h4; cases h4; rfl
    have hh := h6
    obtain ⟨⟨oc, vc, e1, e2, e3, e4⟩, hP⟩ := h6
    have g2 := KX _ _ k4
    rw [g2] at e1
    cases e1
    cases e3
    rw [k5] at e4
    cases e4
    refine ⟨hP, hh.isCodeTable, ?_⟩
    obtain ⟨bm, ob, b1, b2, b3, b4, b5, b6⟩ := G.T.bmain
    refine ⟨bm, ob, b1, b2, fun z => ?_, fun z => ?_, b3, b4, b5, b6⟩
    · obtain ⟨o, es, ep, e, d, _⟩ := G.T.g
      rw [z, e] at b3
      cases b3
      rw [d] at b6; cases b6
    · rw [z, hP] at b3
      cases b3
      cases b6
  exact law_at KX G.T.g G.T.b G.T.builtins G.T.nolimit hg hT hbm hobj hints (Nat.le_trans hlen hn2) hF fun H hH hS => hsp H a ns hlen hH hS
/-- the law's def at the caller's place: no container is being told -/
theorem at_def {x qual : Str} {st : Stmt} {fd : FuncData} {N ps : List Str} {k : Nat} (Fn : Fun K x qual st fa fd) (S : FnScope N ps (defScope st)) (hr : Room (k + 1) callerA) (hbd : ∀ us : List Value, us.length = ps.length → ∀ s : Shared, BindsTo s fd ⟨us, []⟩ (ps.zip us)) (len : ∀ vs H Q E, sp vs H Q E → vs.length = ps.length)
    (hbody : ∀ (base : Heap) (cdv : Value) (s : Shared) (H : Hp) (vs : List V) (Q : VK) (E : XK), K.In base → (∀ T ∈ Ps, base.BuiltinsAt mg T ∧ mainGlobals ≠ T) → Room k (callerA.deeper (envOfC qual (defScope st) s.heap.objs.size fa cdv)) → (callerA.deeper (envOfC qual (defScope st) s.heap.objs.size fa cdv)).guards = some [] → sp vs H Q E →
      ∃ t, PSs (cxOf CX0 P w K mg base N qual (defScope st) fa cdv callerA [] s H E).nox (defBody st) t ∧ t { nx := fun _ H' => Q .non H', rt := Q } (start N vs) H) : AtCaller P w K mg Ps fa sp := by
  intro base s H us vs Q E tb e0 r h
  obtain ⟨oc, od, kV, doc, pm, an, cdv, ct, osl, rfl, lk, hcd⟩ := Fn.ex
  have hl := len _ _ _ _ h
  have KX : K.In s.heap := e0.mod.kin.keeps fun b o e => (e0.bs b o e).1
  have lim : s.heap.NoLimit := e0.mod.nolimit.keeps fun b o e => (e0.bs b o e).1
  refine codeAny_call_function hr.depth (KX _ _ lk) rfl S.co S.gen rfl (PySem.W.codeRec_of KX hcd) (hbd us (by rw [← r.length]; exact hl) s _ _ _ _ ?_)
  refine wpAny_newFunctionEnv_cells S.kind (fun y hy => ?_) fun env he s1 x => ?_
  · rcases S.par y.1 (List.of_mem_zip hy).1 with z | z
    · exact .inl z
    · exact .inr ⟨z, PySem.W.cellsFrom_some _ _ _ (.inl z)⟩
  · subst he
    refine ⟨lim.keeps x.toInCall.keep, codeAny_func ?_⟩
    obtain ⟨t, ht, hq⟩ := hbody base cdv s H vs Q E e0.mod.kin tb (hr.deeper _) rfl h
    have I := inv_start (CX := CX0) (E := E) (f := fa) (cd := cdv) (qual := qual) S hr.hd e0 hl r x
    refine wpAny_mono (ht.nox.run [] s1 _ H _ I hq) (fun fl s' hs => ?_) fun _ _ z => z
    have fin : ∀ {σ' : L2.St} {H' : Hp} {v : V} {u : Value}, Inv (cxOf CX0 P w K mg base N qual (defScope st) fa cdv callerA [] s H E) [] σ' H' s' → RelV v u → Q v H' → CE [] P w H s Q u s' := fun {σ' H' v u} J rv q => ⟨v, H', J.os, J.bare, J.base, J.hok, rv, q⟩
    match fl, hs with
    | .ret u, hs =>
      obtain ⟨v, σ', H', J, rv, q⟩ := hs
      exact fin J rv q
    | .next, hs =>
      obtain ⟨σ', H', J, q⟩ := hs
      exact fin (v := V.non) (u := Value.none) J rfl q
    | .brk, hs => obtain ⟨_, _, _, q⟩ := hs; exact q.elim
    | .cont, hs => obtain ⟨_, _, _, q⟩ := hs; exact q.elim
end
end DW
set_option Elab.async false
set_option maxRecDepth 100000
set_option maxHeartbeats 4000000
set_option linter.all false
set_option autoImplicit false
/-! nested defs: made, called where they are made, handed to a def of the module -/
namespace DW
variable [Tb]
open PySem PySem.Spec PyProof.Rows L2 NdefX LamX

/-! ### what the cells held at the entry of the running frame they hold still -/
theorem cells_later {X : Cx} {pins : List (Addr × Obj)} {σ : L2.St} {H : Hp} {s : Shared} {cl : List (Str × Addr)} {fr : List Str} {ws : List (Option V)} (C : CellsAt cl fr ws X.s_0.heap X.H_0) (hx : X.ex = []) (I : Inv X pins σ H s) : CellsAt cl fr ws s.heap H := by
  have nx : ∀ c : Addr, c ∉ X.ex := fun c z => by rw [hx] at z; cases z
  have same : ∀ y c, cl.lookup y = some c → ∀ v, X.s_0.heap.IsCell c v → s.heap.IsCell c v := fun y c e v z => by
    obtain ⟨o, ho, hd⟩ := z
    obtain ⟨sl, q⟩ := I.base.any ho (C.all y c e).1 (nx c)
    exact ⟨_, q, hd⟩
  constructor
  · exact C.len
  · intro y c e
    obtain ⟨n, v, z⟩ := C.all y c e
    obtain ⟨o, ho, _⟩ := id z
    exact ⟨I.base.free c o ho n (nx c), v, same y c e v z⟩
  · exact C.inj
  · intro i y e
    obtain ⟨c, hc, hv⟩ := C.has i y e
    refine ⟨c, hc, fun v ev => ?_⟩
    obtain ⟨u, r, z⟩ := hv v ev
    exact ⟨u, r, same y c hc _ z⟩
/-- what may be called: a nested def, a lambda -/
structure Clb (P : Program) (w : World) (K : PySem.W.Frag) (mg : Str → Option Value) (base : Heap) (k : Nat) (F : FV) (fr : List Str) (sp : List (Option V) → Sp) : Prop where
  fnat : ∀ (H : Hp) (h : Heap) (f : Addr), HOk P w H h → H f = some (F.G f) → PySem.W.FnAt f h
  run : ∀ (f : Addr) (A : Around) (outer : List Env) (s : Shared) (H : Hp) (us : List Value) (vs : List V) (ws : List (Option V)) (Q : VK), Room k A → Env0 P w K mg base A outer s H → H f = some (F.G f) → H F.c = some (CodeO F.c F.q) →
    CellsAt F.cl fr ws s.heap H → Vals vs us → sp ws vs H Q E0 → codeAny (model P w) A (.call (.ref f) ⟨us, []⟩) (CR CX0 outer P w H s Q E0) s
def fvN (F : NF) : FV := ⟨fun a => FnO a F, F.c, F.qual, F.cl⟩
theorem clb_N {P : Program} {w : World} {K : PySem.W.Frag} {mg : Str → Option Value} {base : Heap} {k : Nat} {F : NF} {ps fr : List Str} {sp : List (Option V) → Sp} (o : ∀ f, NOk P w K mg base CX0 k f F ps fr sp) : Clb P w K mg base k (fvN F) fr sp where
  fnat := fun H h f hok e => by
    obtain ⟨od, sl, doc, pm, ctv, ho⟩ := fnO_at hok e
    exact ⟨_, od, _, sl, ho⟩
  run := fun f A outer s H us vs ws Q hr e0 hf hc C r q => (o f).run A outer s H us vs ws Q E0 hr e0 hf hc C r q
/-- a call of the name at slot i, that holds the function F handed in -/
def tCallP (F : FV) (i : Nat) (ws : List (Option V)) (sp : List (Option V) → Sp) (t : TA) : TE := fun σ H Q => ∃ f, σ[i]? = some (some (.ref f)) ∧ H f = some (F.G f) ∧ t σ H fun vs H1 => H1 f = some (F.G f) ∧ H1 F.c = some (CodeO F.c F.q) ∧ sp ws vs H1 Q E0
section
variable {X : Cx} {F : FV} {fr : List Str} {ws : List (Option V)} {i j k : Nat} {x : Str} {sp : List (Option V) → Sp} {t : TA} {e : Expr} {es : List Expr} {p pos : Pos}
theorem pe_callP (Fn : Clb X.prog X.w X.K X.mg X.base k F fr sp) (C0 : CellsAt F.cl fr ws X.s_0.heap X.H_0) (hex : X.ex = []) (hr : Room j X.A) (hk : k ≤ j) (hN : X.N[i]? = some x) (hv : Vis X.env.scope x) (ha : PA X (e :: es) t)
    (hd : (x == ("__debug__" : Str)) = false := by decide) (hcd : (x == ("__classdict__" : Str)) = false := by decide)
    (he : starEach (e :: es) X.env = (false, eval e X.env) :: starEach es X.env := by rfl) (hpl : (backTo pos (starEach es X.env)).any (·.1) = false := by rfl) :
    PE X (.Call (.Name x p) (e :: es) [] pos) (tCallP F i ws sp t) := by
  constructor
  intro pins s σ H Q I h
  obtain ⟨f, hs, hf, ht⟩ := h
  have hvar := (pe_var (pos := p) hN hv hd hcd).run pins s σ H (fun v H1 => v = .ref f ∧ H1 = H) I ⟨.ref f, hs, rfl, rfl⟩
  apply wpAny_Call_Name_kw
  refine thn hvar fun u s1 ⟨v, H1, I1, r1, ev, eH⟩ => ?_
  subst ev eH
  obtain rfl : u = Value.ref f := r1
  refine PySem.W.callWith_F (first := []) (Fn.fnat _ _ _ I1.hok hf) ?_ he hpl
  refine thn (ha.run pos pins s1 σ _ _ I1 ht) fun us s2 ⟨vs, H2, I2, r, h1, h2, q⟩ => ⟨Fn.fnat _ _ _ I2.hok h1, ?_⟩
  show wpAny _ _ (call (.ref f) us) _ _ _
  have run := Fn.run f X.A X.stack s2 H2 us vs ws Q (hr.mono hk) I2.env0 h1 h2 (cells_later C0 hex I2) r q
  refine wpAny_call (codeAny_mono run fun r s' hq => ?_)
  match r, hq with
  | .ok (.ret u), hq => exact I2.after hq
  | .error e, hq => exact (show False from hq).elim
end
/-- a def of the module that gets a function: told of the captured values -/
def tCallG (mk : Addr → FV) (js : List Nat) (n : Nat) (spG : Addr → List (Option V) → List V → Hp → VK → Prop) (t : TA) : TE := fun σ H Q => t σ H fun vs H1 => vs.length = n ∧ ∃ c', spG c' (js.map (slotAt σ)) vs H1 Q
section
variable {X : Cx} {mk : Addr → FV} {cl : List (Str × Addr)} {fr N ps : List Str} {js : List Nat} {k : Nat} {x qual : Str} {st : Stmt} {g : Addr} {fd : FuncData} {spG : Addr → List (Option V) → List V → Hp → VK → Prop} {t : TA} {e : Expr} {es : List Expr} {p pos : Pos}
theorem pe_callG (Fg : Fun X.K x qual st g fd) (S : FnScope N ps (defScope st)) (hm : X.mg x = some (.ref g)) (hb : Binds X.K fd ps []) (hcl : ∀ c', (mk c').cl = cl) (cp : X.Ok → Caps X cl fr js) (hr : Room (k + 1) X.A) (ha : PA X (e :: es) t)
    (hbody : ∀ (cdv : Value) (s : Shared) (H : Hp) (c' : Addr) (ws : List (Option V)) (vs : List V) (Q : VK), CellsAt (mk c').cl fr ws s.heap H → Room k (X.A.deeper (envOfC qual (defScope st) s.heap.objs.size g cdv)) → spG c' ws vs H Q →
      ∃ t, PSs (cxOf CX0 X.prog X.w X.K X.mg X.base N qual (defScope st) g cdv X.A X.stack s H E0).nox (defBody st) t ∧ t { nx := fun _ H' => Q .non H', rt := Q } (L2.start N vs) H)
    (hg : Gl X x := by rfl) (hdb : (x == ("__debug__" : Str)) = false := by decide) (he : starEach (e :: es) X.env = (false, eval e X.env) :: starEach es X.env := by rfl) (hpl : (backTo pos (starEach es X.env)).any (·.1) = false := by rfl) :
    PE X (.Call (.Name x p) (e :: es) [] pos) (tCallG mk js ps.length spG t) := by
  constructor
  intro pins s σ H Q I h
  apply wpAny_Call_Name_kw
  refine ld_glob I hg hm ?_ hdb
  refine PySem.W.callWith_K (h₀ := X.base) I.ok.mod.kin Fg.kp ?_ he hpl
  refine thn (ha.run pos pins s σ H _ I h) fun us s1 ⟨vs, H1, I1, r1, hl, c', q⟩ => ⟨I1.kIn, ?_⟩
  have C : CellsAt (mk c').cl fr (js.map (slotAt σ)) s1.heap H1 := by rw [hcl c']; exact cells_of I1 (cp I1.ok)
  have run : codeAny (model X.prog X.w) X.A (.call (.ref g) ⟨us, []⟩) (CR CX0 X.stack X.prog X.w H1 s1 Q E0) s1 := by
    obtain ⟨oc, od, kV, doc, pm, an, cdv, ct, osl, rfl, lk, hcd⟩ := Fg.ex
    have bd := hb s1 us I1.kIn (by rw [List.append_nil, ← r1.length]; exact hl)
    rw [List.append_nil] at bd
    refine LamX.run_ofS (vs := vs) lk hcd S hr I1.env0 bd r1 hl fun hr' => ?_
    obtain ⟨t, ht, hq⟩ := hbody cdv s1 H1 c' _ vs Q C hr' q
    exact ⟨t, ht.nox, hq⟩
  refine wpAny_call (codeAny_mono run fun r s' hq => ?_)
  match r, hq with
  | .ok (.ret u), hq => exact I1.after hq
  | .error e, hq => exact (show False from hq).elim
end

/-! ### by data -/
/-- the captured values stand behind the arguments -/
def toSpN (K : PySem.W.Frag) (sp : DSpW) : List (Option V) → Sp := fun ws vs H Q E => ∃ cvs : List V, ws = cvs.map some ∧ toSp K sp (vs ++ cvs) H Q E
def toSpG (K : PySem.W.Frag) (mk : Addr → FV) (sp : FV → List V → DSpW) : Addr → List (Option V) → List V → Hp → VK → Prop := fun c' ws vs H Q =>
  ∃ (cvs : List V) (w : Option Addr) (S : Addr → Bool) (ds : List D) (n : Nat) (k : Kn), ws = cvs.map some ∧ Rps K (cut S H) vs ds ∧ OkW K w S H n ∧ sp (mk c') cvs w ds n k ∧ Po K w S H k Q
section
variable {K : PySem.W.Frag} {w : Option Addr} {S : Addr → Bool} {H H0 H1 H2 H' : Hp} {n m : Nat} {σ : L2.St} {ds : List (Option D)} {ta tb te : TE} {tA tB : TA} {k : Kn} {i : Nat} {ks : KS}
theorem startF_app {N : List Str} {vs cvs : List V} : startF N vs (cvs.map some) = L2.start N (vs ++ cvs) := by
  unfold startF L2.start
  rw [List.map_append, List.length_append, List.append_assoc, List.length_map, Nat.sub_sub]
/-- the slots that a function captures -/
theorem slots_of (re : RpE K w S H0 H σ ds) : ∀ {js : List Nat} {cds : List D}, (js.map fun j => ds[j]?) = cds.map (fun d => some (some d)) → (∀ d ∈ cds, isOwn d = false) → ∃ cvs : List V, js.map (slotAt σ) = cvs.map some ∧ Rps K (cut S H) cvs cds
  | [], [], _, _ => ⟨[], rfl, .nil⟩
  | j :: js, d :: cds, h, ho => by
    rw [List.map_cons, List.map_cons] at h
    obtain ⟨h1, h2⟩ := List.cons.inj h
    obtain ⟨v, g1, g2⟩ := re.get j d h1 (ho d List.mem_cons_self)
    obtain ⟨cvs, e, r⟩ := slots_of re (js := js) (cds := cds) h2 fun x hx => ho x (List.mem_cons_of_mem _ hx)
    exact ⟨v :: cvs, by rw [List.map_cons, List.map_cons, e, slotAt_of g1], .cons g2 r⟩
  | [], _ :: _, h, _ => by simp at h
  | _ :: _, [], h, _ => by simp at h
/-- f(..), f made in this very def -/
theorem e_callN {mk : Addr → NF} {js : List Nat} {sp : DSpW} {c' : Addr} {xs : List V} {l cds : List D} (hi : ds[i]? = some (some (.fn (fvN (mk c')) xs l))) (hj : (js.map fun j => ds[j]?) = cds.map (fun d => some (some d))) (ho : ∀ d ∈ cds, isOwn d = false)
    (h : WpA K w tA ds n fun es n1 => sp w (es ++ cds) n1 k) : WpE K w (NdefX.tCallN mk i js (fun _ _ => toSpN K sp) E0 tA) ds n k := fun S H0 σ H Q re ok p => by
  obtain ⟨v, h1, h2⟩ := re.get i _ hi rfl
  cases h2 with
  | @fn a _ _ _ hf hc hx =>
    refine ⟨a, c', h1, (cut_some hf).2, h S H0 σ H _ re ok fun vs H1 es n1 hs p1 ok1 r1 => ?_⟩
    have ex := ex_cut ok p1
    obtain ⟨cvs, e, r⟩ := slots_of (re.up ok p1) hj ho
    exact ⟨(cut_some (ex _ _ hf)).2, (cut_some (ex _ _ hc)).2, cvs, e, w, S, es ++ cds, n1, k, r1.append r, ok1, hs, p.from p1⟩
/-- f(..), f handed in -/
theorem e_callP {F : FV} {sp : DSpW} {cvs : List V} {cds : List D} (hi : ds[i]? = some (some (.fn F cvs cds))) (h : WpA K w tA ds n fun es n1 => sp w (es ++ cds) n1 k) : WpE K w (tCallP F i (cvs.map some) (toSpN K sp) tA) ds n k := fun S H0 σ H Q re ok p => by
  obtain ⟨v, h1, h2⟩ := re.get i _ hi rfl
  cases h2 with
  | @fn a _ _ _ hf hc hx =>
    refine ⟨a, h1, (cut_some hf).2, h S H0 σ H _ re ok fun vs H1 es n1 hs p1 ok1 r1 => ?_⟩
    have ex := ex_cut ok p1
    exact ⟨(cut_some (ex _ _ hf)).2, (cut_some (ex _ _ hc)).2, cvs, rfl, w, S, es ++ cds, n1, k, r1.append (hx.mono ex), ok1, hs, p.from p1⟩
/-- the arguments as they are handed on: a function with what it captured -/
def withCap (cvs : List V) (cds : List D) : D → D
  | .fn F _ _ => .fn F cvs cds
  | d => d
theorem rps_cap {cvs : List V} {cds : List D} (r : Rps K H cvs cds) : ∀ {vs : List V} {es : List D}, Rps K H vs es → Rps K H vs (es.map (withCap cvs cds))
  | _, _, .nil => .nil
  | _, _, .cons a b => by
    refine .cons ?_ (rps_cap r b)
    cases a <;> first | (constructor <;> assumption) | skip
theorem e_callG {mk : Addr → FV} {js : List Nat} {N : Nat} {sp : FV → List V → DSpW} {cds : List D} (hj : (js.map fun j => ds[j]?) = cds.map (fun d => some (some d))) (ho : ∀ d ∈ cds, isOwn d = false)
    (h : WpA K w tA ds n fun es n1 => es.length = N ∧ ∃ c', ∀ cvs, sp (mk c') cvs w (es.map (withCap cvs cds)) n1 k) : WpE K w (tCallG mk js N (toSpG K mk sp) tA) ds n k := fun S H0 σ H Q re ok p =>
  h S H0 σ H _ re ok fun vs H1 es n1 ⟨hl, c', hs⟩ p1 ok1 r1 => by
    obtain ⟨cvs, e, r⟩ := slots_of (re.up ok p1) hj ho
    exact ⟨by rw [r1.length]; exact hl, c', cvs, w, S, es.map (withCap cvs cds), n1, k, e, rps_cap r r1, ok1, hs cvs, p.from p1⟩
/-- def f(..): .. within a def -/
theorem s_ndef {P : Addr} {mk : Addr → NF} (hP : Tb.tab P = true) (hq : ∀ c', (mk c').c = c') (h : ∀ c', ks.nx (ds.set i (some (.fn (fvN (mk c')) [] []))) n) : WpS K w (tNdefM (Tb.tabs.map fun a => (a, Tb.nm a)) i mk) ds n ks := fun S0 H0 S σ H E b r e => by
  have tin : ∀ a, Tb.tab a = true → a ∈ Tb.tabs := fun a ha => of_decide_eq_true ha
  refine ⟨fun q hq => ?_, fun f c' H1 eN bk T1 f0 f1 c1 => ?_⟩
  · obtain ⟨a, ha, rfl⟩ := List.mem_map.mp hq
    exact (b.ok.3 a (decide_eq_true ha)).2
  have pr : Pres w H H1 := ⟨fun a o _ z t => eN a o z (noT_of t), bk⟩
  have ex0 : ∀ a o, H a = some o → noT o = true → H1 a = some o := fun a o z t => eN a o z (noT_of t)
  have exc : Ex (cut S H) (cut S H1) := fun a o z => cut_mk (cut_some z).1 (ex0 a o (cut_some z).2 (cut_nt z)) (cut_nt z)
  have ok1 : OkW K w S H1 n := by
    refine ⟨fun p hp => ⟨(b.ok.1 p hp).1, ?_⟩, fun a ha => ?_, fun a ha => ⟨(b.ok.3 a ha).1, T1 (a, Tb.nm a) (List.mem_map.mpr ⟨a, tin a ha, rfl⟩)⟩, fun a ha => (b.ok.4 a ha).imp id fun ⟨o, ho, t⟩ => ⟨o, ex0 _ _ ho (plain_nt t), t⟩⟩
    · obtain ⟨c, ix, left, ns, h1, h2, h3⟩ := (b.ok.1 p hp).2
      exact ⟨c, ix, left, ns, ex0 _ _ h1 rfl, exc _ _ h2, h3⟩
    · obtain ⟨o, ho⟩ := b.ok.2 a ha
      cases z : H1 a with
      | some o' => exact ⟨o', rfl⟩
      | none => rw [bk a z] at ho; cases ho
  have Sf : S f = false := b.ok.fresh f0
  have c1' : H1 c' = some (CodeO c' (mk c').qual) := c1
  have Sc : S c' = false := by
    cases z : S c' with
    | false => rfl
    | true =>
      exfalso
      rcases ok1.4 c' z with t | ⟨o, ho, t⟩
      · obtain ⟨ps, e, _⟩ := (ok1.3 c' t).2
        rw [c1'] at e
        unfold CodeO at e
        cases e
      · rw [c1'] at ho
        cases ho
        cases t
  have rp : Rp K (cut S H1) (.ref f) (.fn (fvN (mk c')) [] []) := .fn (cut_mk Sf f1) (by show cut S H1 (mk c').c = some (CodeO (mk c').c (mk c').qual); rw [hq]; exact cut_mk Sc c1') .nil
  exact e.nx S _ H1 _ n (h c') (b.up pr ok1) ((r.up b.ok pr).set rp rfl) exc
end
end DW
set_option Elab.async false
set_option maxRecDepth 100000
set_option maxHeartbeats 4000000
set_option linter.all false
set_option autoImplicit false
/-! further rules: starred displays, lists unpacked, enumerate, pairs with a new list, repr of plain values, a nested def's statement -/
namespace DW
variable [Tb]
open PySem PySem.Spec PyProof.Rows L2 NdefX LamX
section
variable {K : PySem.W.Frag} {w : Option Addr} {S : Addr → Bool} {H H0 H1 H2 H' : Hp} {n m : Nat} {σ : L2.St} {ds : List (Option D)} {ta tb te : TE} {tA tB : TA} {t u : TS} {k : Kn} {i j : Nat} {ks : KS} {d e : D}
/-! ### [*xs, ..] -/
theorem a_star {ka : List D → Nat → Prop} (h : WpE K w te ds n fun d n1 => ∃ l, (d = .lst l ∨ d = .tup l) ∧ WpA K w tA ds n1 fun es n2 => ka (l ++ es) n2) : WpA K w (StX.tStar K te tA) ds n ka := fun S H0 σ H Q re ok p =>
  h S H0 σ H _ re ok fun v H1 d n1 ⟨l, hd, h1⟩ p1 ok1 r1 => by
    rcases hd with e | e
    · subst e
      cases r1 with
      | @lst a xs _ hL hx =>
        exact ⟨a, xs, rfl, .inr (SqL.of (cut_some hL).2), h1 S H0 σ H1 _ (re.up ok p1) ok1 fun vs H2 es n2 hk p2 ok2 r2 => p _ H2 _ n2 hk (p1.trans p2) ok2 ((hx.mono (ex_cut ok1 p2)).append r2)⟩
    · subst e
      cases r1 with
      | @tup a xs _ hT hx =>
        exact ⟨a, xs, rfl, .inl (Evl.ex_t (cut_ex S H1) hT), h1 S H0 σ H1 _ (re.up ok p1) ok1 fun vs H2 es n2 hk p2 ok2 r2 => p _ H2 _ n2 hk (p1.trans p2) ok2 ((hx.mono (ex_cut ok1 p2)).append r2)⟩
/-! ### a, b, c = a list -/
theorem g_lst {u : TGs} {es : List D} {ds1 : List (Option D)} {vs : List Nat} {k : Nat} (h : GDs K w u es ds ds1 vs) (hl : es.length = k) : GD K w (gLst K k u) (.lst es) ds ds1 vs := fun S H0 σ H v Q r hv kk => by
  cases hv with
  | lst hL hx => exact ⟨_, _, rfl, SqL.of (cut_some hL).2, by rw [hx.length]; exact hl, h S H0 σ H _ Q r hx kk⟩
/-! ### enumerate -/
def enD (l : List D) : List D := l.mapIdx fun i d => D.tup [.int (i : Nat), d]
theorem enD_len {l : List D} : (enD l).length = l.length := by unfold enD; simp
theorem enD_get {l : List D} {i : Nat} {d : D} (h : (enD l)[i]? = some d) : ∃ x, l[i]? = some x ∧ d = .tup [.int (i : Nat), x] := by
  unfold enD at h
  rw [List.getElem?_mapIdx] at h
  obtain ⟨x, h1, h2⟩ := Option.map_eq_some_iff.mp h
  exact ⟨x, h1, h2.symm⟩
theorem wk_enum {a : Addr} {xs : List V} {l : List D} {Hk : Hp} (ha : Hk a = some (.lst xs)) (r : Rps K Hk xs l) : Wk K Hk (Ite K a) (enD l) := fun i H e => by
  have hl := r.length
  have qa : SqL K H a xs := SqL.of (e _ _ ha)
  refine ⟨fun d hd => ?_, fun hi => ⟨xs, qa, by rw [enD_len] at hi; omega⟩⟩
  obtain ⟨y, h1, h2⟩ := enD_get hd
  subst h2
  obtain ⟨v, hv, rv⟩ := r.get h1
  refine ⟨⟨xs, v, qa, hv⟩, fun x H' ⟨T, x', e1, e2, e3, e4⟩ => ?_⟩
  have z1 := e4 xs qa
  rw [hv] at z1; cases z1
  subst e1 e3
  refine ⟨Evl.Ex.new e2, fun S eS hS => ?_⟩
  have hT : S T = false := by
    cases z : S T with
    | false => rfl
    | true => obtain ⟨o, ho⟩ := hS T z; rw [e2] at ho; cases ho
  have e' : Ex Hk (cut S (upd H T (.tup [.int (i : Nat), v]))) := fun b o hb' => by
    obtain ⟨g1, g2⟩ := cut_some (eS b o hb')
    exact cut_mk g1 (by rw [upd_ne (ne_of_none g2 e2)]; exact g2) (cut_nt (eS b o hb'))
  exact .tup (SqT.of (cut_mk hT upd_same)) (.cons (.int _) (.cons (rv.mono e') .nil))
theorem i_enum {k : List D → Nat → Prop} (h : WpA K w tA ds n fun es n1 => ∃ l, es = [.lst l] ∧ k (enD l) n1) : WpI K w (iEnum K tA) ds n k := fun S H0 σ H R re ok p =>
  h S H0 σ H _ re ok fun vs H1 es n1 ⟨l, e, hk⟩ p1 ok1 r1 => by
    subst e
    cases r1 with
    | cons a b =>
      cases b
      cases a with
      | lst hL hx => exact ⟨_, _, rfl, SqL.of (cut_some hL).2, p _ H1 _ n1 hk p1 ok1 (wk_enum hL hx)⟩
/-! ### statements -/
/-- a word between -/
theorem s_mid {mid : Kd} (h1 : WpS K w t ds n { ks with nx := mid }) (h2 : ∀ ds' n', mid ds' n' → WpS K w u ds' n' ks) : WpS K w (tSeq t u) ds n ks :=
  s_seq (h1.imp (fun ds' n' h => h2 ds' n' h) (fun _ _ h => h) (fun _ _ h => h) (fun _ _ h => h))
/-! ### comparisons of plain values -/
theorem rd_neB {i j : Bool} (hk : k (.bl (!decide (i = j))) n) : RD K w (rNeU K) (.bl i) (.bl j) n k := fun S v u H Q a b ok p => by
  cases a; cases b; exact .inl ⟨by cases i <;> cases j <;> rfl, by rw [dB]; exact p _ H _ n hk Pres.refl ok (.bl _)⟩
theorem rd_eqB {i j : Bool} (hk : k (.bl (decide (i = j))) n) : RD K w (rEqU K) (.bl i) (.bl j) n k := fun S v u H Q a b ok p => by
  cases a; cases b; exact .inl ⟨by cases i <;> cases j <;> rfl, by rw [dB]; exact p _ H _ n hk Pres.refl ok (.bl _)⟩
/-- an optional integer -/
def oD : Option Int → D
  | none => .non
  | some i => .int i
theorem rd_neO {x y : Option Int} (hk : k (.bl (!decide (x = y))) n) : RD K w (rNeU K) (oD x) (oD y) n k := fun S v u H Q a b ok p => by
  cases x with
  | none =>
    cases y with
    | none => cases a; cases b; exact .inl ⟨rfl, p _ H _ n hk Pres.refl ok (.bl _)⟩
    | some j => cases a; cases b; exact .inl ⟨rfl, p _ H _ n hk Pres.refl ok (.bl _)⟩
  | some i =>
    cases y with
    | none => cases a; cases b; exact .inl ⟨rfl, p _ H _ n hk Pres.refl ok (.bl _)⟩
    | some j =>
      cases a; cases b
      refine .inl ⟨rfl, ?_⟩
      rw [dI]
      have e : decide (some i = some j) = decide (i = j) := by
        by_cases h : i = j
        · subst h; simp
        · simp [h]
      rw [e] at hk
      exact p _ H _ n hk Pres.refl ok (.bl _)
/-! ### repr -/
def rReprX (K : PySem.W.Frag) : RCT := fun xs H Q => (∃ i, xs = [.int i] ∧ i.natAbs.log2 < 1920 ∧ Q (.str (toString i)) H) ∨ (xs = [.non] ∧ Q (.str "None") H) ∨ rReprU K xs H Q
theorem call_reprN {X : Cx} : CallR X (.builtin "repr") (fun xs H Q => xs = [.non] ∧ Q (.str "None") H) := by
  intro pins s σ H xs us Q I r h
  obtain ⟨rfl, q⟩ := h
  cases r with
  | cons ra rb =>
    cases rb
    cases ra
    exact PySem.P.repr_of_none ⟨.str _, H, I.tok _, ⟨_, rfl⟩, q⟩
theorem call_reprX {X : Cx} (hg : X.A.guards = some []) (hu : X.A.units + 64 < cLine) : CallR X (.builtin "repr") (rReprX X.K) := (SkE.call_repr_int).or (call_reprN.or (call_reprU hg hu))
def reprO : Option Int → Str
  | none => "None"
  | some i => toString i
theorem rc_reprO {x : Option Int} (hz : ∀ i, x = some i → i.natAbs.log2 < 1920) (hk : k (.str (reprO x)) n) : RC K w (rReprX K) [oD x] n k := fun S vs H Q r ok p => by
  cases x with
  | none =>
    cases r with
    | cons a b => cases b; cases a; exact .inr (.inl ⟨rfl, p _ H _ n hk Pres.refl ok (.str _)⟩)
  | some i =>
    cases r with
    | cons a b => cases b; cases a; exact .inl ⟨i, rfl, hz i rfl, p _ H _ n hk Pres.refl ok (.str _)⟩
/-! ### a, b = x, a new list of one's own -/
theorem f_listA {l : List D} (hd : d = .lst l ∨ d = .tup l) {kf : List D → Nat → Prop} (h : WpE K w te ds n fun d' n1 => d' = d ∧ kf l n1) : WpF K w (tCB (rListU K) (tCons te tNil)) ds n kf := fun S H0 σ H Q re ok p =>
  h S H0 σ H _ re ok fun v H1 d' n1 ⟨e, hk⟩ p1 ok1 r1 => by
    subst e
    rcases hd with e | e <;> subst e <;> cases r1
    · rename_i a xs hL hx
      exact .inl ⟨a, xs, rfl, .inl (SqL.of (cut_some hL).2), fun q hq => p q _ xs l n1 hk (p1.back _ hq) (p1.trans (Pres.new hq)) (ok1.addS hq) upd_same (hx.mono (cut_addS hq))⟩
    · rename_i a xs hT hx
      exact .inl ⟨a, xs, rfl, .inr (Evl.ex_t (cut_ex S H1) hT), fun q hq => p q _ xs l n1 hk (p1.back _ hq) (p1.trans (Pres.new hq)) (ok1.addS hq) upd_same (hx.mono (cut_addS hq))⟩
theorem s_parF {i j : Nat} (h : WpE K w ta ds n fun d n1 => isOwn d = false ∧ WpF K w tb ds n1 fun l n2 => ks.nx ((ds.set i (some d)).set j (some (.own l))) n2) : WpS K w (tPar i j (tCons ta (tCons tb tNil))) ds n ks := fun S0 H0 S σ H E b r e =>
  h S H0 σ H _ r b.ok fun v H1 d n1 ⟨ho, hf⟩ p1 ok1 r1 => by
    have b1 := b.up p1 ok1
    have re1 := r.up b.ok p1
    have e1 : Ends4 w K S0 H0 S H1 E ks := e.from (ex_cut b.ok p1)
    have hlen := re1.len
    refine hf S H0 σ H1 _ re1 ok1 fun a H2 xs l n2 hk ha p2 ok2 hl hx => ⟨v, .ref a, rfl, ?_⟩
    exact own_put b1 (re1.set r1 ho) e1 hk ha p2 ok2 hl hx
end
end DW
set_option Elab.async false
set_option maxRecDepth 100000
set_option maxHeartbeats 4000000
set_option linter.all false
set_option autoImplicit false
/-! lambdas with parameters: made, handed to a def of the module -/
namespace DW
variable [Tb]
open PySem PySem.Spec PyProof.Rows L2 NdefX LamX
/-- at f: the lambda with the words of F and this body -/
def LamO (f : Addr) (F : NF) (body : Expr) : HO := .ext fun h => ∃ pm ctv : Value, h.get? f = some (PySem.W.kla_obj F.name F.qual F.params body F.scope F.cl pm F.c ctv)
def fvL (F : NF) (body : Expr) : FV := ⟨fun a => LamO a F body, F.c, F.qual, F.cl⟩
theorem lamO_at {P : Program} {w : World} {H : Hp} {h : Heap} {f : Addr} {F : NF} {body : Expr} (hok : HOk P w H h) (e : H f = some (LamO f F body)) :
    ∃ pm ctv : Value, h.get? f = some (PySem.W.kla_obj F.name F.qual F.params body F.scope F.cl pm F.c ctv) := (hok f _ e).1
section
variable {P : Program} {w : World} {K : PySem.W.Frag} {mg : Str → Option Value} {base : Heap} {N ps fr : List Str} {F : NF} {body : Expr} {k : Nat} {sp : List (Option V) → Sp}
theorem clb_L (S : NScope N ps fr F.scope) (hb : ∀ (pm ctv : Value) (us : List Value), us.length = ps.length → bindArgs (PySem.W.kla_fn F.name F.qual F.params body F.scope F.cl pm (.ref F.c) ctv) ⟨us, []⟩ = pure (ps.zip us))
    (len : ∀ ws vs H Q, sp ws vs H Q E0 → vs.length = ps.length)
    (hbody : ∀ (f : Addr) (A : Around) (outer : List Env) (s : Shared) (H : Hp) (vs : List V) (ws : List (Option V)) (Q : VK), Room k (A.deeper (envF F f s.heap.objs.size)) → ws.length = fr.length → sp ws vs H Q E0 →
      ∃ t, PE (ncx CX0 P w K mg base N F f A outer s H E0) body t ∧ t (startF N vs ws) H Q) : Clb P w K mg base (k + 1) (fvL F body) fr sp where
  fnat := fun H h f hok e => by
    obtain ⟨pm, ctv, ho⟩ := lamO_at hok e
    exact ⟨_, _, _, _, ho⟩
  run := fun f A outer s H us vs ws Q hr e0 hf hc C r hsp => by
    have hl := len _ _ _ _ hsp
    have noLim : s.heap.NoLimit := e0.mod.nolimit.keeps fun b o z => (e0.bs b o z).1
    obtain ⟨pm, ctv, ho⟩ := lamO_at e0.hok hf
    refine PySem.W.kla_callFunE hr.depth ho rfl S.co S.gen rfl (codeO_at e0.hok hc) ?_
    show wpAny _ _ (bindArgs (PySem.W.kla_fn F.name F.qual F.params body F.scope F.cl pm (.ref F.c) ctv) ⟨us, []⟩) _ _ _
    rw [hb pm ctv us (r.length ▸ hl)]
    apply wpAny_pure
    refine wpAny_newFunctionEnv S.nocell (fun y hy => S.par y.1 (List.of_mem_zip hy).1) (fun h1 hns hsb => ⟨noLim.fresh _ hsb, ?_⟩) S.kind
    show codeAny _ _ (.expr body (envF F f s.heap.objs.size)) _ _
    have keep1 : ∀ b o, s.heap.get? b = some o → h1.get? b = some o := fun b o z => hsb.extBut b o (Nat.ne_of_lt (Heap.lt_size z)) (Heap.get?_push_of_some _ z)
    obtain ⟨t, ht, hq⟩ := hbody f A outer s H vs ws Q (hr.deeper _) C.len hsp
    have J := inv_startN (CX := CX0) (mg := mg) (f := f) (E := E0) (tk := s.toks + (ps.zip us).length) S hr.hd e0 hl r C hns keep1
    apply PySem.W.kla_codeExpr
    refine wpAny_mono (ht.run [] _ _ H Q J hq) (fun v s' z => ?_) fun e s' z => z
    obtain ⟨v', H', J', rv, q⟩ := z
    exact ⟨v', H', J'.os, J'.bare, J'.base, J'.hok, rv, q⟩
end
/-! ### the making -/
/-- all but the tables of T stays -/
def ExtT (T : List NTab) (H H' : Hp) : Prop := ∀ b o, H b = some o → b ∉ T.map (·.1) → H' b = some o
def tLamE (T : List NTab) (body : Expr) (mk : Addr → NF) : TE := fun _ H Q => TabsN T H ∧ ∀ (f c' : Addr) (H1 : Hp), ExtT T H H1 → TabsN T H1 → H f = none → H c' = none ∨ H c' = some (CodeO c' (mk c').qual) → H1 f = some (LamO f (mk c') body) → H1 c' = some (CodeO c' (mk c').qual) → Q (.ref f) H1
section
variable {X : Cx} {T : List NTab} {nm : Nat → Nat → Str} {c P : Addr} {params : Arguments} {body : Expr} {scope : Scope} {pos : Pos}
/-- the new function is tracked -/
theorem inv_lam {pins : List (Addr × Obj)} {σ : L2.St} {H : Hp} {s : Shared} {F : NF} {tk : Nat} {pm ctv : Value} (I : Inv X pins σ H s) :
    Inv X pins σ (upd H s.heap.objs.size (LamO s.heap.objs.size F body)) { s with heap := s.heap.push (PySem.W.kla_obj F.name F.qual F.params body F.scope F.cl pm F.c ctv), toks := tk } := by
  have there : (s.heap.push (PySem.W.kla_obj F.name F.qual F.params body F.scope F.cl pm F.c ctv)).get? s.heap.objs.size = some (PySem.W.kla_obj F.name F.qual F.params body F.scope F.cl pm F.c ctv) := Heap.get?_push_size _ rfl
  refine I.laid (a := s.heap.objs.size) (fun b o z => Heap.get?_push_of_some _ z) (Nat.le_refl _) ⟨⟨pm, ctv, there⟩, ⟨_, there⟩, ?_⟩
  rintro h1 h2 ⟨p', v', z⟩ st
  exact ⟨p', v', st _ z⟩
theorem pe_lam (TB : TabB X.base X.mg c P) (hcode : X.env.code = .ref c) (hm : (P, nm) ∈ T) (hn : nm pos.line pos.col = X.env.qual ++ "<lambda>") (hu : ∀ p ∈ T, p.1 = P → p.2 = nm)
    (hfree : ∀ y ∈ scope.names, y.2 = .free → X.env.scope.names.lookup y.1 = some .cell ∨ X.env.scope.names.lookup y.1 = some .free) (hdef : defaultsOf params X.env = ([], [])) :
    PE X (.Lambda params body scope pos) (tLamE T body fun c' => ⟨"<lambda>", X.env.qual ++ "<lambda>", params, [], scope, cloFrom X.env.cells scope.names [], c'⟩) := by
  constructor
  intro pins s σ H Q I hh
  obtain ⟨hT, h⟩ := hh
  have hcells : ∀ y ∈ scope.names, y.2 = .free → ∃ a, X.env.cells.lookup y.1 = some a := fun y hy e => by
    rcases hfree y hy e with z | z
    · exact I.ok.has _ (.inl z)
    · exact I.ok.has _ (.inr z)
  obtain ⟨ps, hP, ht, ha⟩ := show TabN H P nm from hT _ hm
  have PinT : P ∈ T.map (·.1) := List.mem_map.mpr ⟨_, hm, rfl⟩
  have blt := TB.bm.keeps I.bk
  have atP : s.heap.get? P = some { cls := .none, data := .fields ps } := I.hok P _ hP
  apply PySem.W.kla_eval hdef
  match hc : codeAmong pos ps.toList with
  | some cv =>
    obtain ⟨c1, rfl, hco⟩ := ha pos cv hc
    rw [hn] at hco
    refine PySem.W.kla_makeFunctionHit (mg := X.mg) (c := c) (P := P) (ps := ps) (closure_ok hcells) I.ok.glob (I.mod.glob.keeps I.bk) hcode (TB.code.keeps I.bk) atP ht hc blt ?_
    intro ctv h1 tk kept sz
    have J := I.kept (t' := tk) kept
    have nf : H h1.objs.size = none := J.hok.fresh (Nat.le_refl _)
    have J2 := inv_lam (body := body) (F := ⟨"<lambda>", X.env.qual ++ "<lambda>", params, [], scope, cloFrom X.env.cells scope.names [], c1⟩) (tk := tk) (pm := (X.mg "__name__").getD .none) (ctv := ctv) J
    have old : ∀ b o, H b = some o → upd H h1.objs.size (LamO h1.objs.size ⟨"<lambda>", X.env.qual ++ "<lambda>", params, [], scope, cloFrom X.env.cells scope.names [], c1⟩ body) b = some o := fun b o z => by
      rw [upd_ne (ne_of_none z nf)]; exact z
    exact ⟨.ref h1.objs.size, _, J2, rfl, h _ c1 _ (fun b o z _ => old b o z) (hT.ext old) nf (.inr hco) upd_same (old _ _ hco)⟩
  | none =>
    refine PySem.W.kla_makeFunction (mg := X.mg) (c := c) (P := P) (ps := ps) (closure_ok hcells) I.ok.glob (I.mod.glob.keeps I.bk) hcode (TB.code.keeps I.bk) atP ht hc TB.gP blt ?_
    intro c1 ctv h1 tk kept ge lt rec tab
    obtain ⟨c2, oc, us, t, ec, g1, g2, g3⟩ := rec
    cases ec
    have nc : H c1 = none := I.hok.fresh ge
    have J := inv_table (t' := tk) (more := #[rawInt pos.line, rawInt pos.col, .ref c1]) (q := X.env.qual ++ "<lambda>") I hP (fun b o nb z => kept b o nb z) tab ge ⟨oc, us, t, g1, g2, g3⟩
    have nf := J.hok.fresh (Nat.le_refl _)
    have J2 := inv_lam (body := body) (F := ⟨"<lambda>", X.env.qual ++ "<lambda>", params, [], scope, cloFrom X.env.cells scope.names [], c1⟩) (tk := tk) (pm := (X.mg "__name__").getD .none) (ctv := ctv) J
    have stay : ∀ b o, H b = some o → b ≠ P → upd (upd H P (.tbl (ps ++ #[rawInt pos.line, rawInt pos.col, .ref c1]))) c1 (CodeO c1 (X.env.qual ++ "<lambda>")) b = some o := fun b o z nb => by
      rw [upd_ne (ne_of_none z nc), upd_ne nb]; exact z
    have later : ∀ b o, upd (upd H P (.tbl (ps ++ #[rawInt pos.line, rawInt pos.col, .ref c1]))) c1 (CodeO c1 (X.env.qual ++ "<lambda>")) b = some o → upd (upd (upd H P (.tbl (ps ++ #[rawInt pos.line, rawInt pos.col, .ref c1]))) c1 (CodeO c1 (X.env.qual ++ "<lambda>"))) h1.objs.size
        (LamO h1.objs.size ⟨"<lambda>", X.env.qual ++ "<lambda>", params, [], scope, cloFrom X.env.cells scope.names [], c1⟩ body) b = some o := fun b o z => by
      rw [upd_ne (ne_of_none z nf)]; exact z
    have toL : (ps ++ #[rawInt pos.line, rawInt pos.col, Value.ref c1]).toList = ps.toList ++ [rawInt pos.line, rawInt pos.col, .ref c1] := by simp
    have nfH : H h1.objs.size = none := I.hok.fresh (Nat.le_trans ge (Nat.le_of_lt lt))
    refine ⟨.ref h1.objs.size, _, J2, rfl, h _ c1 _ (fun b o z nb => later b o (stay b o z fun q => nb (q ▸ PinT))) (TabsN.ext ?_ later) nfH (.inl nc) upd_same (later _ _ upd_same)⟩
    intro p hp
    by_cases q : p.1 = P
    · rw [hu p hp q, q]
      refine ⟨_, ?_, by rw [toL]; exact TriplesOk_snoc _ _ _ _ ht, fun p' cv hcv => ?_⟩
      · rw [upd_ne (ne_of_none hP nc)]; exact upd_same
      rw [toL] at hcv
      rcases among_app2 _ ht hcv with z | ⟨z, z1, z2⟩
      · obtain ⟨c0, e1, e2⟩ := ha p' cv z
        exact ⟨c0, e1, stay _ _ e2 fun y => by rw [y, hP] at e2; exact codeO_ne ps (Option.some.inj e2).symm⟩
      · refine ⟨c1, z, ?_⟩
        rw [← z1, ← z2, hn]
        exact upd_same
    · obtain ⟨qs, a1, a2, a3⟩ := hT p hp
      refine ⟨qs, stay _ _ a1 q, a2, fun p' cv hcv => ?_⟩
      obtain ⟨c0, e1, e2⟩ := a3 p' cv hcv
      exact ⟨c0, e1, stay _ _ e2 fun y => by rw [y, hP] at e2; exact codeO_ne ps (Option.some.inj e2).symm⟩
end
/-! ### by data -/
section
variable {K : PySem.W.Frag} {w : Option Addr} {S : Addr → Bool} {H H0 H1 H2 H' : Hp} {n m : Nat} {σ : L2.St} {ds : List (Option D)} {k : Kn} {body : Expr}
theorem e_lam {mk : Addr → NF} (hq : ∀ c', (mk c').c = c') (h : ∀ c', k (.fn (fvL (mk c') body) [] []) n) : WpE K w (tLamE (Tb.tabs.map fun a => (a, Tb.nm a)) body mk) ds n k := fun S H0 σ H Q re ok p => by
  have tin : ∀ a, Tb.tab a = true ↔ a ∈ Tb.tabs := fun a => decide_eq_true_iff
  have dom : (Tb.tabs.map fun a => (a, Tb.nm a)).map (·.1) = Tb.tabs := by rw [List.map_map]; exact (List.map_congr_left fun _ _ => rfl).trans (List.map_id _)
  refine ⟨fun q hq => ?_, fun f c' H1 eT T1 f0 hc0 f1 c1 => ?_⟩
  · obtain ⟨a, ha, rfl⟩ := List.mem_map.mp hq
    exact (ok.3 a ((tin a).mpr ha)).2
  have old : ∀ a o, Tb.tab a = false → H a = some o → H1 a = some o := fun a o ht z => eT a o z (by rw [dom]; intro y; rw [(tin a).mpr y] at ht; cases ht)
  have tb1 : ∀ a, Tb.tab a = true → TabOk H1 a := fun a ht => T1 (a, Tb.nm a) (List.mem_map.mpr ⟨a, (tin a).mp ht, rfl⟩)
  have pr : Pres w H H1 := ⟨fun a o hf z _ => old a o hf.2 z, fun a z => by
    cases ht : Tb.tab a with
    | true =>
      obtain ⟨ps, e, _⟩ := tb1 a ht
      rw [e] at z; cases z
    | false =>
      cases y : H a with
      | none => rfl
      | some o => rw [old a o ht y] at z; cases z⟩
  have exc : Ex (cut S H) (cut S H1) := ex_cut ok pr
  have ok1 : OkW K w S H1 n := by
    refine ⟨fun p hp => ⟨(ok.1 p hp).1, ?_⟩, fun a ha => ?_, fun a ha => ⟨(ok.3 a ha).1, tb1 a ha⟩, fun a ha => ?_⟩
    · obtain ⟨c, ix, left, ns, h1, h2, h3⟩ := (ok.1 p hp).2
      have pt : Tb.tab p = false := pen_tab ok hp
      exact ⟨c, ix, left, ns, old p _ pt h1, exc _ _ h2, h3⟩
    · cases z : H1 a with
      | some o' => exact ⟨o', rfl⟩
      | none =>
        obtain ⟨o, ho⟩ := ok.2 a ha
        rw [pr.back a z] at ho; cases ho
    · cases ht : Tb.tab a with
      | true => exact .inl rfl
      | false =>
        rcases ok.4 a ha with z | ⟨o, ho, t⟩
        · rw [ht] at z; cases z
        · exact .inr ⟨o, old a o ht ho, t⟩
  have Sf : S f = false := ok.fresh f0
  have Sc : S c' = false := by
    cases z : S c' with
    | false => rfl
    | true =>
      exfalso
      rcases ok1.4 c' z with t | ⟨o, ho, t⟩
      · obtain ⟨ps, e, _⟩ := (ok1.3 c' t).2
        rw [c1] at e
        unfold CodeO at e
        cases e
      · rw [c1] at ho
        cases ho
        cases t
  exact p _ H1 _ n (h c') pr ok1 (.fn (cut_mk Sf f1) (by show cut S H1 (mk c').c = some (CodeO (mk c').c (mk c').qual); rw [hq]; exact cut_mk Sc c1) .nil)
end
end DW
set_option Elab.async false
set_option maxRecDepth 100000
set_option maxHeartbeats 4000000
set_option linter.all false
set_option autoImplicit false
/-! lists shortened, lengthened by lists; numbers made more or less in place -/
namespace DW
variable [Tb]
open PySem PySem.Spec PyProof.Rows L2
section
variable {K : PySem.W.Frag} {w : Option Addr} {n : Nat} {ds : List (Option D)} {te : TE} {i : Nat} {ks : KS}
theorem Rps.dropLast : ∀ {H : Hp} {xs : List V} {ds : List D}, Rps K H xs ds → Rps K H xs.dropLast ds.dropLast
  | _, _, _, .nil => .nil
  | _, _, _, .cons a .nil => .nil
  | _, _, _, .cons a (.cons b c) => .cons a (Rps.dropLast (.cons b c))
/-- xs.pop() -/
theorem s_pop {l : List D} (hi : ds[i]? = some (some (.own l))) (h0 : l ≠ []) (h : ks.nx (ds.set i (some (.own l.dropLast))) n) : WpS K w (tDrop (tBM0 K "list" rPop (tVar i))) ds n ks := fun S0 H0 S σ H E b r e => by
  obtain ⟨a, xs, h1, h2, h3, h4, h5, h6⟩ := r.own i l hi
  have hl := h6.length
  have hne : xs.length ≠ 0 := by
    rw [hl]
    exact fun z => h0 (List.length_eq_zero_iff.mp z)
  refine ⟨.ref a, h1, Or.inl ⟨rfl, xs, Evl.sq_of h5⟩, ?_⟩
  refine ⟨a, xs, xs[xs.length - 1]'(by omega), rfl, rfl, h5, by rw [List.getElem?_eq_getElem], ?_⟩
  have r' := r.mutOwn (xs' := xs.dropLast) (l' := l.dropLast) hi h1 h6.dropLast
  refine e.nx S σ _ _ n h (b.mut h2 h3 h4 (.lst h5)) r' ?_
  rw [cut_upd h2]; exact Evl.Ex.refl _
theorem s_popX (h : ∃ l, ds[i]? = some (some (.own l)) ∧ l ≠ [] ∧ ks.nx (ds.set i (some (.own l.dropLast))) n) : WpS K w (tDrop (tBM0 K "list" rPop (tVar i))) ds n ks := by
  obtain ⟨l, h1, h2, h3⟩ := h
  exact s_pop h1 h2 h3
/-- x += e, x -= e, of integers -/
theorem s_aug {f : Int → Int → Int} {x : Int} (hi : ds[i]? = some (some (.int x))) (h : WpE K w te ds n fun d n1 => ∃ y, d = .int y ∧ ks.nx (ds.set i (some (.int (f x y)))) n1) : WpS K w (tAug i te (ipI f)) ds n ks := fun S0 H0 S σ H E b r e => by
  obtain ⟨v, h1, h2⟩ := r.get i _ hi rfl
  cases h2
  refine ⟨_, h1, h S H0 σ H _ r b.ok fun v H1 d n1 ⟨y, hd, hk⟩ p1 ok1 r1 => ?_⟩
  subst hd
  cases r1
  exact ⟨x, y, rfl, rfl, e.nx S _ H1 _ n1 hk (b.up p1 ok1) ((r.up b.ok p1).set (.int _) rfl) (ex_cut b.ok p1)⟩
theorem s_augX {f : Int → Int → Int} (h : ∃ x, ds[i]? = some (some (.int x)) ∧ WpE K w te ds n fun d n1 => ∃ y, d = .int y ∧ ks.nx (ds.set i (some (.int (f x y)))) n1) : WpS K w (tAug i te (ipI f)) ds n ks := by
  obtain ⟨x, h1, h2⟩ := h
  exact s_aug h1 h2
/-- divmod of integers -/
def rDivmodU : RCT := fun xs H Q => ∃ i j, xs = [.int i, .int j] ∧ CDiv i j ∧ ∀ p, H p = none → Q (.ref p) (upd H p (.tup [.int (i / j), .int (i % j)]))
theorem cr_divmodU {X : Cx} : CallR X (.builtin "divmod") rDivmodU := call_divmod
theorem rc_divmod {i j : Int} {k : Kn} (h1 : 0 < j) (h2 : j < 1073741824) (hk : k (.tup [.int (i / j), .int (i % j)]) n) : RC K w rDivmodU [.int i, .int j] n k := fun S vs H Q r ok p => by
  cases r with
  | cons a b =>
    cases a
    cases b with
    | cons a' b' =>
      cases a'
      cases b'
      exact ⟨i, j, rfl, ⟨h1, h2⟩, fun q hq => p _ _ _ n hk (Pres.new hq) (ok.new hq) (.tup (SqT.of (cut_new ok hq)) (.cons (.int _) (.cons (.int _) .nil)))⟩
theorem rc_divmodX {i j : Int} {k : Kn} (h : (0 < j ∧ j < 1073741824) ∧ k (.tup [.int (i / j), .int (i % j)]) n) : RC K w rDivmodU [.int i, .int j] n k := rc_divmod h.1.1 h.1.2 h.2
end
/-! ### a list of one's own, looked at -/
section
variable {K : PySem.W.Frag} {w : Option Addr} {n : Nat} {ds : List (Option D)} {te : TE} {i : Nat} {k : Kn} {l : List D}
theorem e_lenOwn (hi : ds[i]? = some (some (.own l))) (hk : k (.int l.length) n) : WpE K w (tCB (rLenU K) (tCons (tVar i) tNil)) ds n k := fun S H0 σ H Q re ok p => by
  obtain ⟨a, xs, h1, h2, h3, h4, h5, h6⟩ := re.own i l hi
  exact ⟨.ref a, h1, .ref a, l.length, rfl, .inl ⟨xs, SqL.of h5, h6.length.symm⟩, p _ H _ n hk Pres.refl ok (.int _)⟩
theorem e_lenOwnX (h : ∃ l : List D, ds[i]? = some (some (.own l)) ∧ k (.int l.length) n) : WpE K w (tCB (rLenU K) (tCons (tVar i) tNil)) ds n k := by
  obtain ⟨l, h1, h2⟩ := h
  exact e_lenOwn h1 h2
theorem e_ixOwn (hi : ds[i]? = some (some (.own l))) (h : WpE K w te ds n fun d n1 => ∃ (z : Int) (x : D), d = .int z ∧ atI l z = some x ∧ k x n1) : WpE K w (tOp (rIx K) (tVar i) te) ds n k := fun S H0 σ H Q re ok p => by
  obtain ⟨a, xs, h1, h2, h3, h4, h5, h6⟩ := re.own i l hi
  refine ⟨.ref a, h1, h S H0 σ H _ re ok fun v H1 d n1 ⟨z, x, hd, hz, hk⟩ p1 ok1 r1 => ?_⟩
  subst hd
  cases r1
  have g5 : H1 a = some (.lst xs) := p1.go a _ h3 h5 rfl
  have x6 := h6.mono (ex_cut ok p1)
  obtain ⟨j, g1, g2⟩ := Option.bind_eq_some_iff.mp hz
  obtain ⟨y, hy, ry⟩ := x6.get g2
  refine .inl ⟨a, xs, z, y, rfl, rfl, SqL.of g5, ?_, p _ H1 _ n1 hk p1 ok1 ry⟩
  unfold atI; rw [x6.length, g1]; exact hy
theorem e_ixOwnX (h : ∃ l : List D, ds[i]? = some (some (.own l)) ∧ WpE K w te ds n fun d n1 => ∃ (z : Int) (x : D), d = .int z ∧ atI l z = some x ∧ k x n1) : WpE K w (tOp (rIx K) (tVar i) te) ds n k := by
  obtain ⟨l, h1, h2⟩ := h
  exact e_ixOwn h1 h2
/-- a part of a list is a new list -/
theorem f_sl {tl th : TO} {kf : List D → Nat → Prop} (h : WpE K w te ds n fun d n1 => ∃ l, d = .lst l ∧ WpO K w tl ds n1 fun lo n2 => WpO K w th ds n2 fun hi n3 => kf (cutD l lo hi) n3) : WpF K w (tSl (rSlU K) te tl th) ds n kf := fun S H0 σ H Q re ok p =>
  h S H0 σ H _ re ok fun v H1 d n1 ⟨l, e, h1⟩ p1 ok1 r1 => by
    subst e
    refine h1 S H0 σ H1 _ (re.up ok p1) ok1 fun lo H2 n2 h2 p2 ok2 => h2 S H0 σ H2 _ ((re.up ok p1).up ok1 p2) ok2 fun hi H3 n3 h3 p3 ok3 => ?_
    have r3 := (r1.mono (ex_cut ok1 p2)).mono (ex_cut ok2 p3)
    have p13 := (p1.trans p2).trans p3
    cases r3 with
    | @lst aa xs _ hA xA =>
      refine .inl ⟨aa, xs, rfl, SqL.of (cut_some hA).2, fun q hq => p q _ (cutV xs lo hi) (cutD l lo hi) n3 h3 (p13.back _ hq) (p13.trans (Pres.new hq)) (ok3.addS hq) upd_same ?_⟩
      have := (((xA.drop (HT.sIx xs.length 0 lo)).take (HT.sIx xs.length xs.length hi - HT.sIx xs.length 0 lo)).mono (cut_addS (o := .lst (cutV xs lo hi)) hq))
      unfold cutV cutD
      rw [← xA.length]; exact this
end
/-! ### f(*x, e, ..), f a def of the module -/
section
variable {M : Model} {A : Around} {E : Value → Shared → Prop} {s : Shared}
theorem evalArgs_star {f : Value} {x : Sem Value} {b : Bool × Sem Value} {rest : List (Bool × Sem Value)} {Q : Args → Shared → Prop}
    (h : wpAny M A (spliced ((true, x) :: b :: rest)) (fun vs s' => Q ⟨vs, []⟩ s') E s) : wpAny M A (evalArgs f true ((true, x) :: b :: rest) []) Q E s := by
  unfold evalArgs
  show wpAny M A (spliced ((true, x) :: b :: rest) >>= _) Q E s
  refine wpAny_bind (wpAny_mono h (fun vs s' h' => ?_) fun _ _ x => x)
  refine wpAny_holding ?_
  exact wpAny_bind (wpAny_pure (wpAny_bind (wpAny_pure (wpAny_pure h'))))
end
section
variable {X : Cx} {k j : Nat} {x : Str} {sp : Sp} {dvs : List V} {e e2 : Expr} {es : List Expr} {t : TA} {p pos sp_ : Pos}
theorem pe_goS (G : Go X.prog X.w X.K X.mg X.base j x sp dvs) (hr : Room k X.A) (ha : PA X (.Starred e sp_ :: e2 :: es) t) (hj : j ≤ k := by decide) (hg : Gl X x := by rfl) (hdb : (x == ("__debug__" : Str)) = false := by decide)
    (he : starEach (.Starred e sp_ :: e2 :: es) X.env = (true, eval e X.env) :: (false, eval e2 X.env) :: starEach es X.env := by rfl) :
    PE X (.Call (.Name x p) (.Starred e sp_ :: e2 :: es) [] pos) (tCall sp dvs E0 t) := by
  obtain ⟨f, fd, ps, ds, F, hm, hk, hb, hd⟩ := G.ex
  refine ⟨fun pins s σ H Q I h => ?_⟩
  refine wpAny_Call_Name_kw (ld_glob I hg hm ?_ hdb)
  have run : wpAny (model X.prog X.w) X.A (spliced (backTo pos (starEach (.Starred e sp_ :: e2 :: es) X.env))) (fun us s1 => X.K.In s1.heap ∧ wpAny (model X.prog X.w) X.A (call (.ref f) ([] ++ us)) (EP X pins σ Q) X.xe s1) X.xe s :=
    thn (ha.run pos pins s σ H _ I h) fun us s1 ⟨vs, H1, I1, r, q⟩ => ⟨I1.kIn, run_fn F (hr.mono hj) hb hd pass0 I1 r q⟩
  rw [he] at run ⊢
  exact PySem.W.ks_call rfl (PySem.W.keeps_K hk) (evalArgs_star run)
end
end DW
set_option Elab.async false
set_option maxRecDepth 100000
set_option maxHeartbeats 4000000
set_option linter.all false
set_option autoImplicit false
/-! comprehensions over pairs; pairs of numbers in lists -/
namespace DW
variable [Tb]
open PySem PySem.Spec PyProof.Rows L2
section
variable {K : PySem.W.Frag} {w : Option Addr} {n : Nat} {ds : List (Option D)} {ta tb te : TE} {tA : TA} {i j : Nat} {k : Kn} {ks : KS} {wi : TI} {tt : TT} {d e : D}
theorem dwipe2 (hij : i ≠ j) {a b : Option D} : ((dwipe ds [i, j]).set i a).set j b = (ds.set i a).set j b := by
  show (((ds.set j none).set i none).set i a).set j b = _
  rw [List.set_set, List.set_comm none a (fun z => hij z.symm), List.set_set]
theorem f_lcG2 {α : Type} {φ ψ : α → D} (hφ : ∀ x, isOwn (φ x) = false) (hψ : ∀ x, isOwn (ψ x) = false) (hij : i ≠ j) {k : List D → Nat → Prop} {P : α → Bool} {f : α → D} (h : WpI K w wi ds n fun items n1 => ∃ ns : List α, items = ns.map (fun x => .tup [φ x, ψ x]) ∧ ns.length ≤ 100000 ∧
      (∀ z, z ∈ ns → WpT K w tt ((ds.set i (some (φ z))).set j (some (ψ z))) n1 fun b n2 => b = P z ∧ n2 = n1 ∧ (b = true → WpE K w te ((ds.set i (some (φ z))).set j (some (ψ z))) n1 fun d n3 => d = f z ∧ n3 = n1)) ∧ k ((ns.filter P).map f) n1) :
    WpF K w (tLc wi (gTup K 2 (gCons (gName i) (gCons (gName j) gNil))) tt te [i, j]) ds n k := by
  refine f_lc (h.imp fun items n1 ⟨ns, e, hz, hb, hk⟩ => ?_)
  subst e
  refine ⟨by rw [List.length_map]; exact hz, fun q acc n' => n' = n1 ∧ acc = ((ns.take q).filter P).map f, ⟨rfl, by simp⟩, fun q x acc n' hx ⟨e1, e2⟩ => ?_, fun acc n' ⟨e1, e2⟩ => ?_⟩
  · subst e1 e2
    rw [List.getElem?_map] at hx
    obtain ⟨z, hz1, hz2⟩ := Option.map_eq_some_iff.mp hx
    subst hz2
    have hmem := List.mem_of_getElem? hz1
    have et : ns.take (q + 1) = ns.take q ++ [z] := by rw [List.take_succ, hz1]; rfl
    refine ⟨_, g_tup (gs_cons (g_name (hφ z)) (gs_cons (g_name (hψ z)) gs_nil)) rfl, ?_⟩
    rw [dwipe2 hij]
    refine (hb z hmem).imp fun b n2 ⟨e1, e2, hb2⟩ => ?_
    subst e2
    refine ⟨fun hbt => (hb2 hbt).imp fun d n3 ⟨e3, e4⟩ => ⟨e4, ?_⟩, fun hbf => ⟨rfl, ?_⟩⟩
    · rw [et, List.filter_append, List.map_append, e3]
      congr 1
      rw [List.filter_cons, ← e1, hbt]; rfl
    · rw [et, List.filter_append, List.map_append]
      rw [show List.filter P [z] = [] by rw [List.filter_cons, ← e1, hbf]; rfl]
      simp
  · subst e1 e2
    rw [List.length_map, List.take_length]
    exact hk
theorem e_lcG2X {α : Type} (h : ∃ (φ ψ : α → D) (P : α → Bool) (f : α → D), (∀ x, isOwn (φ x) = false) ∧ (∀ x, isOwn (ψ x) = false) ∧ i ≠ j ∧ WpI K w wi ds n fun items n1 => ∃ ns : List α, items = ns.map (fun x => .tup [φ x, ψ x]) ∧ ns.length ≤ 100000 ∧
      (∀ z, z ∈ ns → WpT K w tt ((ds.set i (some (φ z))).set j (some (ψ z))) n1 fun b n2 => b = P z ∧ n2 = n1 ∧ (b = true → WpE K w te ((ds.set i (some (φ z))).set j (some (ψ z))) n1 fun d n3 => d = f z ∧ n3 = n1)) ∧ k (.lst ((ns.filter P).map f)) n1) :
    WpE K w (tLc wi (gTup K 2 (gCons (gName i) (gCons (gName j) gNil))) tt te [i, j]) ds n k := by
  obtain ⟨φ, ψ, P, f, h0, h1, h2, h⟩ := h
  exact WpF.toE (k := k) (f_lcG2 h0 h1 h2 h)
/-! ### pairs of numbers -/
def ptD (x : Int × Int) : D := .tup [.int x.1, .int x.2]
def ptPy (x : Int × Int) : PyData := .tuple [.int x.1, .int x.2]
theorem toPy_pt (x : Int × Int) : toPy (ptD x) = ptPy x := rfl
theorem toPys_pts : ∀ l : List (Int × Int), toPys (l.map ptD) = l.map ptPy
  | [] => rfl
  | x :: l => by rw [List.map_cons, List.map_cons]; unfold toPys; rw [toPys_pts l]; rfl
theorem pure_pts : ∀ l : List (Int × Int), pureDs (l.map ptD) = true
  | [] => rfl
  | x :: l => by rw [List.map_cons]; unfold pureDs; rw [pure_pts l]; rfl
theorem canLay_pts : ∀ l : List (Int × Int), PyData.canLayAll0 (l.map ptPy) = true
  | [] => rfl
  | x :: l => by rw [List.map_cons]; unfold PyData.canLayAll0; rw [canLay_pts l]; rfl
theorem depth_pts : ∀ l : List (Int × Int), PyData.depthAll (l.map ptPy) ≤ 5
  | [] => by decide
  | x :: l => by rw [List.map_cons]; unfold PyData.depthAll; have := depth_pts l; have e : (ptPy x).depth ≤ 5 := by simp [ptPy, PyData.depth, PyData.depthAll]
                 omega
theorem e_fldE {f : Str} (h : WpE K w te ds n fun d n1 => ∃ C ns l, d = .obj C ns l ∧ ClT K C ns ∧ f ∈ ns ∧ ∃ e, (ns.zip l).lookup f = some e ∧ k e n1) : WpE K w (tFld K te f) ds n k :=
  e_fld (h.imp fun d n1 ⟨C, ns, l, e1, T, hf, e, he, hk⟩ => ⟨C, ns, l, e, e1, T.cls, T.na f hf, he, hk⟩)
theorem eqv_pt (x y : Int × Int) : PyData.eqv (ptPy x) (ptPy y) = decide (x = y) := by
  obtain ⟨a, b⟩ := x
  obtain ⟨c, d⟩ := y
  unfold ptPy
  have e : ∀ i j : Int, PyData.eqv (.int i) (.int j) = decide (i = j) := fun i j => by
    first
      | rfl
      | (simp [PyData.eqv]; by_cases h : i = j <;> simp [h])
  rw [PyData.eqv, PyData.eqvAll, PyData.eqvAll, PyData.eqvAll, e, e]
  by_cases h1 : a = c <;> by_cases h2 : b = d <;> simp [h1, h2, Prod.ext_iff]
theorem shaped_pts (l : List (Int × Int)) : SeqAt.shaped (toPy (.lst (l.map ptD))) = true := by
  show SeqAt.shaped (.list (toPys (l.map ptD))) = true
  rw [toPys_pts]
  show (PyData.canLayAll0 (l.map ptPy) && decide (PyData.depth (.list (l.map ptPy)) ≤ 64)) = true
  rw [canLay_pts]
  have e : PyData.depth (.list (l.map ptPy)) = PyData.depthAll (l.map ptPy) + 1 := rfl
  have := depth_pts l
  rw [e, Bool.true_and]
  exact decide_eq_true (by omega)
theorem any_pts (x : Int × Int) : ∀ l : List (Int × Int), ((l.map ptPy).any fun z => PyData.eqv z (ptPy x)) = decide (x ∈ l)
  | [] => rfl
  | y :: l => by
    rw [List.map_cons, List.any_cons, any_pts x l, eqv_pt]
    by_cases h : y = x
    · subst h; simp
    · have h' : ¬ x = y := fun z => h z.symm
      simp [h, h']
theorem rd_inPts {x : Int × Int} {l : List (Int × Int)} (hk : k (.bl (decide (x ∈ l))) n) : RD K w (rInU K false) (ptD x) (.lst (l.map ptD)) n k := by
  refine rd_inDeep rfl (pure_pts l) rfl (shaped_pts l) ?_
  rw [toPys_pts, toPy_pt, any_pts]
  exact hk
theorem rd_ninPts {x : Int × Int} {l : List (Int × Int)} (hk : k (.bl (!decide (x ∈ l))) n) : RD K w (rInU K true) (ptD x) (.lst (l.map ptD)) n k := by
  refine rd_ninDeep rfl (pure_pts l) rfl (shaped_pts l) ?_
  rw [toPys_pts, toPy_pt, any_pts]
  exact hk
theorem cutD_drop1 {l : List D} : cutD l (some 1) none = l.drop 1 := by
  unfold cutD
  have e2 : HT.sIx l.length l.length none = l.length := rfl
  rw [e2, show (some (1 : Int)) = some ((1 : Nat) : Int) from rfl, HT.sIx_nat]
  by_cases h : 1 ≤ l.length
  · rw [Nat.min_eq_left h]
    exact List.take_of_length_le (by rw [List.length_drop]; exact Nat.le_refl _)
  · have : l = [] := List.eq_nil_of_length_eq_zero (by omega)
    subst this
    rfl
theorem rc_allX' {α : Type} {l : List α} {f : α → Bool} (hk : k (.bl (l.all f)) n) : RC K w (rAll K) [.lst (l.map fun x => .bl (f x))] n k := by
  have e : (l.map fun x => D.bl (f x)) = (l.map f).map D.bl := by rw [List.map_map]; rfl
  rw [e]
  refine rc_all ?_
  rw [List.all_map]
  exact hk
theorem rc_allF {α : Type} {l : List α} (hk : k (.bl true) n) : RC K w (rAll K) [.lst ((l.filter fun _ => true).map fun _ => .bl true)] n k := by
  refine rc_allX' (f := fun _ => true) ?_
  rw [List.all_eq_true.mpr fun _ _ => rfl]
  exact hk
theorem rc_lenP {x : Int × Int} (hk : k (.int 2) n) : RC K w (rLenU K) [ptD x] n k := rc_lenT hk
theorem rd_ixP0 {x : Int × Int} (hk : k (.int x.1) n) : RD K w (rIx K) (ptD x) (.int 0) n k := rd_ixT (atI_nat (j := 0) rfl) hk
theorem rd_ixP1 {x : Int × Int} (hk : k (.int x.2) n) : RD K w (rIx K) (ptD x) (.int 1) n k := rd_ixT (atI_nat (j := 1) rfl) hk
theorem rd_powL {i j v : Int} (hv : i ^ j.toNat = v) (hc : 0 ≤ j ∧ j ≤ 1000000 ∧ i.natAbs < 2 ^ 64) (hk : k (.int v) n) : RD K w (rI CPow fun i j => .int (i ^ j.toNat)) (.int i) (.int j) n k := by
  subst hv
  exact rd_powX ⟨hc, hk⟩
theorem rd_eqO {x y : Option Int} (hk : k (.bl (decide (x = y))) n) : RD K w (rEqU K) (oD x) (oD y) n k := fun S v u H Q a b ok p => by
  cases x with
  | none =>
    cases y with
    | none => cases a; cases b; exact .inl ⟨rfl, p _ H _ n hk Pres.refl ok (.bl _)⟩
    | some j => cases a; cases b; exact .inl ⟨rfl, p _ H _ n hk Pres.refl ok (.bl _)⟩
  | some i =>
    cases y with
    | none => cases a; cases b; exact .inl ⟨rfl, p _ H _ n hk Pres.refl ok (.bl _)⟩
    | some j =>
      cases a; cases b
      refine .inl ⟨rfl, ?_⟩
      rw [dI]
      have e : decide (some i = some j) = decide (i = j) := by
        by_cases h : i = j
        · subst h; simp
        · simp [h]
      rw [e] at hk
      exact p _ H _ n hk Pres.refl ok (.bl _)
/-- a list of one's own and a thing that touches no heap, put side by side -/
theorem s_parO {i j : Nat} {v : V} (hij : i ≠ j) (hv : ∀ H : Hp, Rp K H v d) (ho : isOwn d = false) (hb : ∀ (σ : L2.St) (H : Hp) (Q : VK), Q v H → tb σ H Q) (h : WpF K w ta ds n fun l n1 => ks.nx ((ds.set j (some d)).set i (some (.own l))) n1) : WpS K w (tPar i j (tCons ta (tCons tb tNil))) ds n ks := fun S0 H0 S σ H E b r e =>
  h S H0 σ H _ r b.ok fun a H1 xs l n1 hk ha p1 ok1 hl hx => hb σ H1 _ ⟨.ref a, v, rfl, by
    have z := own_put b (r.set (hv _) ho (i := j)) e hk ha p1 ok1 hl hx
    rw [List.set_comm _ _ (fun q => hij q.symm)] at z
    exact z⟩
theorem s_parOI {i j : Nat} {x : Int} (hij : i ≠ j) (h : WpF K w ta ds n fun l n1 => ks.nx ((ds.set j (some (.int x))).set i (some (.own l))) n1) : WpS K w (tPar i j (tCons ta (tCons (tC (.int x)) tNil))) ds n ks :=
  s_parO (v := .int x) (d := .int x) hij (fun _ => .int _) rfl (fun _ _ _ q => q) h
theorem s_parON {i j : Nat} {x : Int} (hij : i ≠ j) (h : WpF K w ta ds n fun l n1 => ks.nx ((ds.set j (some (.int (-x)))).set i (some (.own l))) n1) : WpS K w (tPar i j (tCons ta (tCons (tUn (rU fun i => .int (-i)) (tC (.int x))) tNil))) ds n ks :=
  s_parO (v := .int (-x)) (d := .int (-x)) hij (fun _ => .int _) rfl (fun _ _ _ q => ⟨x, rfl, q⟩) h
/-- a comprehension whose items are ints of a kind, each costs B draws at most -/
theorem f_lcInts {P : Int → Prop} (B : Nat) {kf : List D → Nat → Prop} (h : WpI K w wi ds n fun items n1 => items.length ≤ 100000 ∧ (∀ q x n', items[q]? = some x → n' ≤ n1 + B * q → isOwn x = false ∧ WpE K w te (ds.set i (some x)) n' fun d n2 => ∃ z, d = .int z ∧ P z ∧ n2 ≤ n' + B) ∧
      (∀ ns : List Int, ns.length = items.length → (∀ z ∈ ns, P z) → ∀ n', n' ≤ n1 + B * items.length → kf (ns.map .int) n')) : WpF K w (tLc wi (gName i) tYes te [i]) ds n kf := by
  refine f_lc (h.imp fun items n1 ⟨hz, hb, hk⟩ => ?_)
  refine ⟨hz, fun q acc n' => n' ≤ n1 + B * q ∧ ∃ ns : List Int, acc = ns.map .int ∧ ns.length = q ∧ ∀ z ∈ ns, P z, ⟨by omega, [], rfl, rfl, fun z hz => by simp at hz⟩, fun q x acc n' hx ⟨e1, ns, e2, e3, e4⟩ => ?_, fun acc n' ⟨e1, ns, e2, e3, e4⟩ => ?_⟩
  · obtain ⟨ho, hw⟩ := hb q x n' hx e1
    have ed : (dwipe ds [i]).set i (some x) = ds.set i (some x) := by
      show ((dwipe ds []).set i none).set i _ = _
      rw [List.set_set]; rfl
    refine ⟨_, g_name ho, t_yes ?_⟩
    rw [ed]
    refine ⟨fun _ => hw.imp fun d n2 ⟨z, e5, e6, e7⟩ => ⟨by rw [Nat.mul_succ]; omega, ns ++ [z], by rw [e2, e5, List.map_append]; rfl, by rw [List.length_append, e3]; rfl, fun y hy => ?_⟩, fun z => (nomatch z)⟩
    rcases List.mem_append.mp hy with hy | hy
    · exact e4 y hy
    · rw [List.mem_singleton] at hy; subst hy; exact e6
  · subst e2
    exact hk ns e3 e4 n' e1
theorem e_lcInts {P : Int → Prop} (B : Nat) (h : WpI K w wi ds n fun items n1 => items.length ≤ 100000 ∧ (∀ q x n', items[q]? = some x → n' ≤ n1 + B * q → isOwn x = false ∧ WpE K w te (ds.set i (some x)) n' fun d n2 => ∃ z, d = .int z ∧ P z ∧ n2 ≤ n' + B) ∧
      (∀ ns : List Int, ns.length = items.length → (∀ z ∈ ns, P z) → ∀ n', n' ≤ n1 + B * items.length → k (.lst (ns.map .int)) n')) : WpE K w (tLc wi (gName i) tYes te [i]) ds n k := WpF.toE (k := k) (f_lcInts B h)
theorem cutD_m1 {l : List D} (h : 1 ≤ l.length) : cutD l none (some (-1)) = l.dropLast := by
  unfold cutD
  have e1 : HT.sIx l.length 0 none = 0 := rfl
  have e2 : HT.sIx l.length l.length (some (-1)) = l.length - 1 := by
    have := HT.clip_eq (-1) l.length l.length
    rw [if_pos (by decide)] at this
    omega
  rw [e1, e2, List.drop_zero, Nat.sub_zero, List.dropLast_eq_take]
/-- a, b, c = x, y, z -/
theorem s_par3 {i j l : Nat} (h : WpA K w tA ds n fun es n1 => ∃ d1 d2 d3, es = [d1, d2, d3] ∧ isOwn d1 = false ∧ isOwn d2 = false ∧ isOwn d3 = false ∧ ks.nx (((ds.set i (some d1)).set j (some d2)).set l (some d3)) n1) : WpS K w (tPar3 i j l tA) ds n ks := fun S0 H0 S σ H E b r e =>
  h S H0 σ H _ r b.ok fun vs H1 es n1 ⟨d1, d2, d3, ee, o1, o2, o3, hk⟩ p1 ok1 r1 => by
    subst ee
    cases r1 with
    | cons a b' =>
      cases b' with
      | cons a' b' =>
        cases b' with
        | cons a2 b' =>
          cases b'
          exact ⟨_, _, _, rfl, e.nx S _ H1 _ n1 hk (b.up p1 ok1) ((((r.up b.ok p1).set a o1).set a' o2).set a2 o3) (ex_cut b.ok p1)⟩
/-- repr of None or a whole number, wherever it stands -/
def rReprO (K : PySem.W.Frag) : RCT := fun xs H Q => (∃ i, xs = [.int i] ∧ i.natAbs.log2 < 1920 ∧ Q (.str (toString i)) H) ∨ (xs = [.non] ∧ Q (.str "None") H)
theorem call_reprO {X : Cx} : CallR X (.builtin "repr") (rReprO X.K) := (SkE.call_repr_int).or call_reprN
theorem rc_reprOO {x : Option Int} (hz : ∀ i, x = some i → i.natAbs.log2 < 1920) (hk : k (.str (reprO x)) n) : RC K w (rReprO K) [oD x] n k := fun S vs H Q r ok p => by
  cases r with
  | cons a b =>
    cases b
    cases x with
    | none => cases a; exact .inr ⟨rfl, p _ H _ n hk Pres.refl ok (.str _)⟩
    | some i => cases a; exact .inl ⟨i, rfl, hz i rfl, p _ H _ n hk Pres.refl ok (.str _)⟩
theorem rd_isN0 (hk : k (.bl false) n) : RD K w rIsNU (oD none) .non n k := rd_isNNn hk
theorem rd_is0 (hk : k (.bl true) n) : RD K w rIsU (oD none) .non n k := rd_isNn hk
theorem rd_isNO {x : Option Int} (hk : k (.bl x.isSome) n) : RD K w rIsNU (oD x) .non n k := by
  cases x with
  | none => exact rd_isNNn hk
  | some i => exact rd_isNI hk
theorem rd_isO {x : Option Int} (hk : k (.bl (!x.isSome)) n) : RD K w rIsU (oD x) .non n k := by
  cases x with
  | none => exact rd_isNn hk
  | some i => exact rd_isI hk
theorem rd_eqOI {x : Option Int} {i : Int} (hk : k (.bl (decide (x = some i))) n) : RD K w (rEqU K) (oD x) (.int i) n k := rd_eqO (y := some i) hk
theorem rd_neOI {x : Option Int} {i : Int} (hk : k (.bl (!decide (x = some i))) n) : RD K w (rNeU K) (oD x) (.int i) n k := rd_neO (y := some i) hk
/-- two keywords told in the other order -/
def swap2 {α : Type} (_ zs : List α) : List α := match zs with
  | [a, b] => [b, a]
  | _ => []
theorem swap2_ok {H : Hp} {vs zs : List V} {es fs : List D} (h1 : Rps K H vs es) (h2 : Rps K H zs fs) : Rps K H (swap2 vs zs) (swap2 es fs) := by
  cases h2 with
  | nil => exact .nil
  | cons a b =>
    cases b with
    | nil => exact .nil
    | cons c d =>
      cases d with
      | nil => exact .cons c (.cons a .nil)
      | cons e f => exact .nil
/-- a promise of a nested def that knows how many it captured -/
def toSpNL (K : PySem.W.Frag) (L : Nat) (sp : DSpW) : List (Option V) → Sp := fun ws vs H Q E => ws.length = L ∧ toSpN K sp ws vs H Q E
theorem e_callNL {mk : Addr → NdefX.NF} {js : List Nat} {L : Nat} {sp : DSpW} {c' : Addr} {xs : List V} {l cds : List D} (hL : js.length = L) (hi : ds[i]? = some (some (.fn (fvN (mk c')) xs l))) (hj : (js.map fun j => ds[j]?) = cds.map (fun d => some (some d))) (ho : ∀ d ∈ cds, isOwn d = false)
    (h : WpA K w tA ds n fun es n1 => sp w (es ++ cds) n1 k) : WpE K w (NdefX.tCallN mk i js (fun _ _ => toSpNL K L sp) E0 tA) ds n k := fun S H0 σ H Q re ok p => by
  obtain ⟨v, h1, h2⟩ := re.get i _ hi rfl
  cases h2 with
  | @fn a _ _ _ hf hc hx =>
    refine ⟨a, c', h1, (cut_some hf).2, h S H0 σ H _ re ok fun vs H1 es n1 hs p1 ok1 r1 => ?_⟩
    have ex := ex_cut ok p1
    obtain ⟨cvs, e, r⟩ := slots_of (re.up ok p1) hj ho
    exact ⟨(cut_some (ex _ _ hf)).2, (cut_some (ex _ _ hc)).2, by rw [List.length_map]; exact hL, cvs, e, w, S, es ++ cds, n1, k, r1.append r, ok1, hs, p.from p1⟩
end
end DW
set_option Elab.async false
set_option maxRecDepth 100000
set_option maxHeartbeats 4000000
set_option linter.all false
set_option autoImplicit false
/-! the law's call: its pen, its rest -/
namespace DW
variable [Tb]
open PySem PySem.Spec PyProof.Rows L2
/-- what _law_pen promises -/
def penSp (K : PySem.W.Frag) : Sp := fun vs H Q _ => ∃ (a : Addr) (ns : List Int), vs = [.ref a] ∧ SqL K H a (ns.map V.int) ∧ ns.length ≤ 63 ∧
  ∀ (p c : Addr) (H' : Hp), H p = none → H c = none → c ≠ p → (∀ b o, H b = some o → H' b = some o) → H' p = some (.lst [.ref c, .int 0, .int 0]) → H' c = some (.lst (ns.map V.int)) → Q (.ref p) H'
def lawSp (K : PySem.W.Frag) : Sp := fun vs H Q _ => ∃ (a : Addr) (ns : List Int), vs = [.ref a] ∧ SqL K H a (ns.map V.int) ∧ ns.length ≤ 63 ∧ (∀ T, Tb.tab T = true → H T = some (.tbl #[])) ∧ ∀ H', Q (.bl true) H'
section
variable {K : PySem.W.Frag}
theorem cut63 {ns : List Int} (hl : ns.length ≤ 63) : cutV (ns.map V.int) none (some 63) = ns.map V.int := by
  unfold cutV
  have e1 : HT.sIx (ns.map V.int).length 0 none = 0 := rfl
  have e2 : HT.sIx (ns.map V.int).length (ns.map V.int).length (some 63) = (ns.map V.int).length := by
    rw [show (63 : Int) = ((63 : Nat) : Int) from rfl, HT.sIx_nat, List.length_map]
    omega
  rw [e1, e2, List.drop_zero, Nat.sub_zero, List.take_length]
/-- return [list(script[:63]), 0, 0] -/
theorem pen_list {a : Addr} {ns : List Int} {H : Hp} {Q : VK} {E : Ends} {σ : L2.St} (hσ : σ[0]? = some (some (.ref a))) (hS : SqL K H a (ns.map V.int)) (hl : ns.length ≤ 63) (he : E.rt = Q)
    (k : ∀ (p c : Addr) (H' : Hp), H p = none → H c = none → c ≠ p → (∀ b o, H b = some o → H' b = some o) → H' p = some (.lst [.ref c, .int 0, .int 0]) → H' c = some (.lst (ns.map V.int)) → Q (.ref p) H') :
    (tRet (tLst (tCons (tCB (rListU K) (tCons (tSl (rSlU K) (tVar 0) tNoPart (tPart (tC (.int 63)))) tNil)) (tCons (tC (.int 0)) (tCons (tC (.int 0)) tNil))))) E σ H := by
  subst he
  refine ⟨.ref a, hσ, ⟨63, rfl, Or.inl ⟨a, _, rfl, hS, fun q hq => ?_⟩⟩⟩
  rw [cut63 hl]
  refine Or.inl ⟨q, ns.map V.int, rfl, .inl (SqL.of upd_same), fun l hl2 => ?_⟩
  have hl0 : H l = none := by
    by_cases e : l = q
    · subst e; rw [upd_same] at hl2; cases hl2
    · rw [upd_ne e] at hl2; exact hl2
  refine ⟨Evl.sz_of (by simp), fun p hp => ?_⟩
  have up : ∀ b o, H b = some o → (upd (upd H q (.lst (ns.map V.int))) l (.lst (ns.map V.int))) b = some o := fun b o e => by
    rw [upd_ne (ne_of_none e hl0), upd_ne (ne_of_none e hq)]; exact e
  have hpl : l ≠ p := fun e => by subst e; rw [upd_same] at hp; cases hp
  refine k p l _ ?_ hl0 hpl (fun b o e => ?_) upd_same ?_
  · cases z : H p with
    | none => rfl
    | some o => rw [up p o z] at hp; cases hp
  · rw [upd_ne (ne_of_none (up b o e) hp)]; exact up b o e
  · rw [upd_ne hpl, upd_same]
theorem vals_swap {vs zs : List V} {us ws : List Value} (h1 : Vals vs us) (h2 : Vals zs ws) : Vals (swap2 vs zs) (swap2 us ws) := by
  cases h2 with
  | nil => exact .nil
  | cons a b =>
    cases b with
    | nil => exact .nil
    | cons a' b' =>
      cases b' with
      | nil => exact .cons a' (.cons a .nil)
      | cons _ _ => exact .nil
theorem repl_none {k i : Nat} {d : D} (h : (List.replicate k (none : Option D))[i]? = some (some d)) : False := by
  rw [List.getElem?_replicate] at h
  split at h <;> cases h
/-- the law: its pen, then what it does with it -/
theorem law_go {N : List Str} {m : Nat} {rest : TS} (hN : N.length = m + 2) (hw : ∀ p, WpS K (some p) rest (none :: some (.raw (.ref p)) :: List.replicate m none) 0 { nx := fun _ _ => False, rt := fun d _ => d = .bl true })
    {a : Addr} {ns : List Int} {H : Hp} {Q : VK} (hS : SqL K H a (ns.map V.int)) (hl : ns.length ≤ 63) (hT : ∀ T, Tb.tab T = true → H T = some (.tbl #[])) (hQ : ∀ H', Q (.bl true) H') :
    (tSeq (tAsg (tCall (penSp K) [] E0 (tCons (tVar 0) tNil)) (gName 1)) rest) { nx := fun _ H' => Q .non H', rt := Q } (L2.start N [.ref a]) H := by
  have hst : L2.start N [.ref a] = some (.ref a) :: List.replicate (m + 1) none := by
    unfold L2.start
    show some (V.ref a) :: List.replicate (N.length - 1) none = _
    rw [hN]; rfl
  rw [hst]
  refine ⟨.ref a, rfl, a, ns, rfl, hS, hl, fun p c H' hp hc hcp hkeep h1 h2 => ?_⟩
  let S : Addr → Bool := fun b => decide (b = p) || Tb.tab b
  have tn : ∀ b, H b = none → Tb.tab b = false := fun b hb => by
    cases z : Tb.tab b with
    | false => rfl
    | true => rw [hT b z] at hb; cases hb
  have hS' : ∀ b, S b = true → b = p ∨ Tb.tab b = true := fun b h => by
    rcases (Bool.or_eq_true _ _).mp h with z | z
    · exact .inl (of_decide_eq_true z)
    · exact .inr z
  have Sc : S c = false := by
    show (decide (c = p) || Tb.tab c) = false
    rw [tn c hc, decide_eq_false hcp]; rfl
  have Sp : S p = true := by
    show (decide (p = p) || Tb.tab p) = true
    rw [decide_eq_true rfl]; rfl
  have hcc : cut S H' c = some (.lst (ns.map V.int)) := cut_mk Sc h2 rfl
  have tT : ∀ b, Tb.tab b = true → H' b = some (.tbl #[]) := fun b hb => hkeep b _ (hT b hb)
  have ok : OkW K (some p) S H' 0 := by
    refine ⟨fun q hq => ?_, fun b hb => ?_, fun b hb => ⟨?_, NdefX.TabN.nil (tT b hb)⟩, fun b hb => ?_⟩
    · cases hq
      exact ⟨Sp, c, 0, 0, ns, h1, hcc, hl, by omega, by omega, by omega⟩
    · rcases hS' b hb with e | e
      · subst e; exact ⟨_, h1⟩
      · exact ⟨_, tT b e⟩
    · show (decide (b = p) || Tb.tab b) = true
      rw [hb, Bool.or_true]
    · rcases hS' b hb with e | e
      · subst e; exact .inr ⟨_, h1, rfl⟩
      · exact .inl e
  refine hw p S H' S ((some (.ref a) :: List.replicate (m + 1) none).set 1 (some (.ref p))) H' _ ⟨Pres.refl, ok, fun _ h => h, fun _ h => .inl h, fun q hq => (by cases hq; exact Sp), ok.2, fun b hb => (ok.3 b hb).1⟩ ⟨by simp, fun i d hi _ => ?_, fun i l hi => ?_, fun i j l m b hij hi => ?_⟩ ⟨fun _ _ _ _ _ z => z.elim, fun v H2 d n2 hd pr ok2 r => ?_, fun _ _ _ _ _ z => z.elim, fun _ _ _ _ _ z => z.elim⟩
  · match i, hi with
    | 0, hi => simp at hi
    | 1, hi =>
      simp at hi
      subst hi
      exact ⟨.ref p, rfl, .raw _⟩
    | i + 2, hi => exact (repl_none (i := i) hi).elim
  · exfalso
    match i, hi with
    | 0, hi => simp at hi
    | 1, hi => simp at hi
    | i + 2, hi => exact repl_none (i := i) hi
  · exfalso
    match i, hi with
    | 0, hi => simp at hi
    | 1, hi => simp at hi
    | i + 2, hi => exact repl_none (i := i) hi
  · subst hd
    cases r
    exact hQ H2
end
end DW
set_option Elab.async false
set_option maxRecDepth 100000
set_option maxHeartbeats 4000000
set_option linter.all false
set_option autoImplicit false
/-! defs that call repr: they stand where no repr is under way -/
namespace DW
variable [Tb]
open PySem PySem.Spec PyProof.Rows L2
/-- a promise kept where no repr is under way -/
structure FnG (P : Program) (w : World) (K : PySem.W.Frag) (mg : Str → Option Value) (base : Heap) (k : Nat) (f : Addr) (fd : FuncData) (ps : List Str) (sp : Sp) : Prop where
  len : ∀ vs H Q E, sp vs H Q E → vs.length = ps.length
  run : ∀ (A : Around) (outer : List Env) (s : Shared) (H : Hp) (ar : Args) (us : List Value) (vs : List V) (Q : VK) (E : XK), A.guards = some [] → Room k A → Env0 P w K mg base A outer s H → BindsTo s fd ar (ps.zip us) → Vals vs us → sp vs H Q E → codeAny (model P w) A (.call (.ref f) ar) (CR CX0 outer P w H s Q E) s
structure GoG (P : Program) (w : World) (K : PySem.W.Frag) (mg : Str → Option Value) (base : Heap) (k : Nat) (x : Str) (sp : Sp) (dvs : List V) : Prop where
  ex : ∃ (f : Addr) (fd : FuncData) (ps : List Str) (ds : List Value), FnG P w K mg base k f fd ps sp ∧ mg x = some (.ref f) ∧ PySem.W.keepIn K (.ref f) = true ∧ Binds K fd ps ds ∧ Vals dvs ds
section
variable {X : Cx} {k j : Nat} {x : Str} {sp : Sp} {dvs : List V} {e : Expr} {es : List Expr} {t : TA} {p pos : Pos}
theorem run_g {f : Addr} {fd : FuncData} {ps : List Str} {ds : List Value} {pins : List (Addr × Obj)} {σ : L2.St} {H : Hp} {s : Shared} {Q : VK} {us : List Value} {vs : List V} (F : FnG X.prog X.w X.K X.mg X.base k f fd ps sp) (hg : X.A.guards = some []) (hr : Room k X.A) (hb : Binds X.K fd ps ds) (hd : Vals dvs ds)
    (I : Inv X pins σ H s) (r : Vals vs us) (h : sp (vs ++ dvs) H Q E0) : wpAny (model X.prog X.w) X.A (call (.ref f) us) (EP X pins σ Q) X.xe s := by
  have r2 := r.append hd
  refine wpAny_call (codeAny_mono (F.run X.A X.stack s H ⟨us, []⟩ (us ++ ds) (vs ++ dvs) Q E0 hg hr I.env0 (hb s us I.kIn (r2.length.symm.trans (F.len _ _ _ _ h))) r2 h) ?_)
  rintro (e | fl) s' hq
  · exact pass0 pins σ H s e s' I hq
  · cases fl <;> first | exact I.after hq | exact False.elim hq
theorem pe_goG (G : GoG X.prog X.w X.K X.mg X.base j x sp dvs) (hgd : X.A.guards = some []) (hr : Room k X.A) (ha : PA X (e :: es) t) (hj : j ≤ k := by decide) (hg : Gl X x := by rfl) (hdb : (x == ("__debug__" : Str)) = false := by decide) (he : starEach (e :: es) X.env = (false, eval e X.env) :: starEach es X.env := by rfl) (hpl : (backTo pos (starEach es X.env)).any (·.1) = false := by rfl) :
    PE X (.Call (.Name x p) (e :: es) [] pos) (tCall sp dvs E0 t) := by
  obtain ⟨f, fd, ps, ds, F, hm, hk, hb, hd⟩ := G.ex
  exact ⟨fun pins s σ H Q I h => wpAny_Call_Name_kw (ld_glob I hg hm (PySem.W.callWith_K (h₀ := X.base) I.ok.mod.kin hk (thn (ha.run pos pins s σ H _ I h) fun us s1 ⟨vs, H1, I1, r, q⟩ => ⟨I1.kIn, run_g F hgd (hr.mono hj) hb hd I1 r q⟩) he hpl) hdb)⟩
end
section
variable {P : Program} {w : World} {K : PySem.W.Frag} {mg : Str → Option Value} {base : Heap}
theorem fn_g {x qual : Str} {st : Stmt} {f : Addr} {fd : FuncData} {N ps : List Str} {k : Nat} {sp : Sp} (Fn : Fun K x qual st f fd) (S : FnScope N ps (defScope st)) (len : ∀ vs H Q E, sp vs H Q E → vs.length = ps.length)
    (hbody : ∀ (cdv : Value) (A : Around) (outer : List Env) (s : Shared) (H : Hp) (vs : List V) (Q : VK) (E : XK), Room k (A.deeper (envOfC qual (defScope st) s.heap.objs.size f cdv)) → (A.deeper (envOfC qual (defScope st) s.heap.objs.size f cdv)).guards = some [] → sp vs H Q E →
      ∃ t, PSs (cxOf CX0 P w K mg base N qual (defScope st) f cdv A outer s H E).nox (defBody st) t ∧ t { nx := fun _ H' => Q .non H', rt := Q } (start N vs) H) : FnG P w K mg base (k + 1) f fd ps sp := by
  refine ⟨len, fun A outer s H ar us vs Q E hgd hr e0 hb r h => ?_⟩
  obtain ⟨oc, od, kV, doc, pm, an, cdv, ct, osl, rfl, lk, hcd⟩ := Fn.ex
  have inK : K.In s.heap := e0.mod.kin.keeps fun b o e => (e0.bs b o e).1
  have nl : s.heap.NoLimit := e0.mod.nolimit.keeps fun b o e => (e0.bs b o e).1
  refine codeAny_call_function hr.depth (inK _ _ lk) rfl S.co S.gen rfl (PySem.W.codeRec_of inK hcd) (hb _ _ _ _ ?_)
  refine wpAny_newFunctionEnv_cells S.kind (fun y hy => ?_) fun env he s1 x => ?_
  · rcases S.par y.1 (List.of_mem_zip hy).1 with z | z
    · exact .inl z
    · exact .inr ⟨z, PySem.W.cellsFrom_some _ _ _ (.inl z)⟩
  · subst he
    refine ⟨nl.keeps x.toInCall.keep, codeAny_func ?_⟩
    obtain ⟨t, ht, hq⟩ := hbody cdv A outer s H vs Q E (hr.deeper _) hgd h
    have I := inv_start (CX := CX0) (E := E) (f := f) (cd := cdv) (qual := qual) S hr.hd e0 (len _ _ _ _ h) r x
    refine wpAny_mono (ht.nox.run [] s1 _ H _ I hq) (fun fl s' hs => ?_) fun _ _ z => z
    have fin : ∀ {σ' : L2.St} {H' : Hp} {v : V} {u : Value}, Inv (cxOf CX0 P w K mg base N qual (defScope st) f cdv A outer s H E) [] σ' H' s' → RelV v u → Q v H' → CE outer P w H s Q u s' := fun {σ' H' v u} J rv q => ⟨v, H', J.os, J.bare, J.base, J.hok, rv, q⟩
    match fl, hs with
    | .ret u, hs =>
      obtain ⟨v, σ', H', J, rv, q⟩ := hs
      exact fin J rv q
    | .next, hs =>
      obtain ⟨σ', H', J, q⟩ := hs
      exact fin (v := V.non) (u := Value.none) J rfl q
    | .brk, hs => obtain ⟨_, _, _, q⟩ := hs; exact q.elim
    | .cont, hs => obtain ⟨_, _, _, q⟩ := hs; exact q.elim
theorem fn_dataG {k : Nat} {x qual : Str} {st : Stmt} {f : Addr} {fd : FuncData} {N ps : List Str} {sp : DSpW} {t : TS} (F : Fun K x qual st f fd) (S : FnScope N ps (defScope st))
    (hl : ∀ w es n k, sp w es n k → es.length = ps.length) (hb : Binds K fd ps []) (hm : mg x = some (.ref f))
    (hd : ∀ (cdv : Value) (A : Around) (outer : List Env) (s : Shared) (H : Hp) (E : XK), Room k (A.deeper (envOfC qual (defScope st) s.heap.objs.size f cdv)) → (A.deeper (envOfC qual (defScope st) s.heap.objs.size f cdv)).guards = some [] → PSs (cxOf CX0 P w K mg base N qual (defScope st) f cdv A outer s H E).nox (defBody st) t)
    (hw : ∀ w es n k, sp w es n k → WpS K w t (dstart N es) n { nx := fun _ n' => kup k .non n', rt := kup k }) : GoG P w K mg base (k + 1) x (toSp K sp) [] :=
  ⟨f, fd, ps, [], fn_g F S (fun vs H Q E h => by
      obtain ⟨w, S, es, n, k, r, ok, hs, p⟩ := h
      rw [r.length]
      exact hl w es n k hs) (fun cdv A outer s H vs Q E hr hgd h => by
      obtain ⟨w, S, es, n, k, r, ok, hs, p⟩ := h
      exact ⟨t, hd cdv A outer s H E hr hgd, body_ok (hw w es n k hs) r ok p.up⟩), hm, F.kp, hb, .nil⟩
end
end DW
set_option Elab.async false
set_option maxRecDepth 100000
set_option maxHeartbeats 4000000
set_option linter.all false
set_option autoImplicit false
/-! sets of whole numbers, made of lists -/
namespace DW
variable [Tb]
open PySem PySem.Spec PyProof.Rows L2
section
variable {P : Program} {w : World} {A : Around} {E : Value → Shared → Prop} {s : Shared}
abbrev nset (w : World) : Obj := { cls := .type "set", dict := none, data := .set #[] 0 (.fresh 0 0 (!w.params.followText "set-order")) }
set_option maxHeartbeats 3200000 in
theorem set_ofI {l : Addr} {its : Array Value} {ns : List Int} {Q : Value → Shared → Prop} (hA : A.handled = none) (L : s.heap.IsList l its) (J : IntsAre its.toList ns) (hz : ns.length < 1000)
    (done : ∀ (h' : Heap) (tk c : Nat), SetR w h' s.heap.objs.size (fun j => decide (j ∈ ns)) c → c ≤ ns.length → (∀ b o, s.heap.get? b = some o → h'.get? b = some o) → Q (.ref s.heap.objs.size) { s with heap := h', toks := tk }) :
    wpAny (model P w) A (call (.type "set") [.ref l]) Q E s := by
  have sz : its.size = ns.length := by have := IntsAre.length J; rwa [Array.length_toList] at this
  have h0 : (s.heap.push (nset w)).get? s.heap.objs.size = some (nset w) := Heap.get?_push_size _ rfl
  have ty : Shared.TypeIs { s with heap := s.heap.push (nset w) } (.ref s.heap.objs.size) "set" := ⟨_, h0, rfl⟩
  obtain ⟨_, _, c1⟩ := F.called_set.mro
  have c2 := F.called_set.made; have c3 := F.called_set.sub; have c4 := F.called_set.notType; have c5 := F.called_set.canCreate; have c6 := F.typeCall_set_1 (.ref l)
  have c7 := F.called_set.init.lookup; have c8 := F.called_set.init.bind (.ref s.heap.objs.size)
  refine wpAny_call (codeAny_of_tree (show wpAny _ _ (callAny (.type "set") _) _ _ _ from wpAny_pure ⟨Code.quiet_builtin _ (by decide +kernel), codeAny_builtin F.entry_type_call ?_⟩))
  rw [Around.under_plain (weight_type_call_type "set" [.ref l] []) rfl]
  repeat (any_goals (first | assumption | wp_step))
  refine codeAny_mono (code_set_led1 (.ref l) (E := E) (Q₁ := fun obj s₁ => obj = .ref s.heap.objs.size ∧ s₁ = { s with heap := s.heap.push (nset w) }) ⟨rfl, rfl⟩) ?_
  rintro (e | fl) s₁ hr
  · exact hr
  cases fl with
  | ret obj =>
    obtain ⟨rfl, rfl⟩ := hr
    repeat (any_goals (first | assumption | wp_step))
    refine codeAny_mono (codeAny_call_builtin (R := wants (fun r s₂ => r = .none ∧ ∃ h' tk c, s₂ = { s with heap := h', toks := tk } ∧ SetR w h' s.heap.objs.size (fun j => decide (j ∈ ns)) c ∧ c ≤ ns.length ∧ (∀ b o, s.heap.get? b = some o → h'.get? b = some o)) E) F.called_set.init.plain F.entry_set_init (check_set_init_1 ty ?_)) ?_
    · obtain ⟨⟨_, od, _, osl⟩, g1, g2, nl, g3⟩ := L
      cases g2; cases g3
      have g4 := Heap.get?_push_of_some (nset w) g1
      have k1 := F.sub_list_set; have k2 := F.sub_list_frozenset
      have k3 : (Value.type "list" == Value.type "dict") = false := by decide
      have L1 : (s.heap.push (nset w)).IsList l its := ⟨_, g4, rfl, nl, rfl⟩
      unfold Builtin.«set.__init__» noKeywords Builtin.Frozenset.updateFrom
      generalize hp : pyIter = pi
      wp_walk
      subst hp
      have lt := Heap.lt_size g1
      have psz : (s.heap.push (nset w)).objs.size = s.heap.objs.size + 1 := Heap.size_push ..
      have val : ∀ (i : Nat) (v : Value), its[i]? = some v → ∃ k t, ns[i]? = some k ∧ v = .int k t := fun i v hv => by
        have hi : i < ns.length := sz ▸ (Array.getElem?_eq_some_iff.mp hv).1
        obtain ⟨t, e⟩ := PyProof.Rows.IntsAre.int_at J i v (by rw [Array.getElem?_toList]; exact hv)
        exact ⟨ns[i], t, List.getElem?_eq_getElem hi, by rw [e, List.getD_eq_getElem?_getD, List.getElem?_eq_getElem hi] <;> rfl⟩
      refine wpAny_pyIter_list L1 (wpAny_bind (wpAny_runValue ?_))
      refine set_update_ints ((Walks.list (A := A.in1.in1.in1) (by simp [hA]) (s.heap.push (nset w)).objs.size l (Nat.ne_of_lt (psz ▸ Nat.lt_succ_of_lt lt)) its).toS) s.heap.objs.size (by rw [psz, List.mem_cons, List.mem_singleton]; exact fun z => z.elim (Nat.ne_of_lt (Nat.lt_succ_self _)) (Nat.ne_of_gt lt)) ns sz (by unfold scanBound; omega) val (its.size - 0) 0 _ (by omega) (Nat.zero_le _) ⟨⟨_, Heap.get?_push_size _ rfl, rfl, rfl⟩, L1.push _⟩ ⟨0, Nat.le_refl 0, setR_new_at (Heap.get?_push_of_some _ h0)⟩ ?_
      rintro ⟨h', _, _, tk', _⟩ c' hm hc' hS'
      cases (hm.gens : _ = s.gens); cases (hm.drawn : _ = s.drawn); cases (hm.os : _ = s.os)
      refine wpAny_pure (show wpAny _ _ (ret Value.none) _ _ _ from wpAny_pure ⟨rfl, h', tk', c', rfl, hS', sz ▸ hc', fun b o e => ?_⟩)
      have hb := Heap.lt_size e
      exact hm.heap b o (by rw [psz, List.mem_cons, List.mem_singleton]; exact fun z => z.elim (Nat.ne_of_lt hb) (Nat.ne_of_lt (Nat.lt_succ_of_lt hb))) (Heap.get?_push_of_some _ (Heap.get?_push_of_some _ e))
    · rintro (e | f2) s₂ h2
      · exact h2
      cases f2 with
      | ret r =>
        obtain ⟨rfl, h', tk, c', rfl, q1, q2, q3⟩ := h2
        repeat (any_goals (first | assumption | wp_step))
        exact done _ _ _ q1 q2 q3
      | _ => exact h2.elim
  | _ => exact hr.elim
end
/-! the type's call -/
section
variable {X : Cx}
def rSetI (w : World) (K : PySem.W.Frag) : List V → Hp → VK → Prop := fun xs H Q => ∃ (l : Addr) (ns : List Int), xs = [.ref l] ∧ (SqL K H l (ns.map V.int)) ∧ ns.length < 64 ∧ ∀ (a : Addr) (S : Int → Bool) (n : Nat), H a = none → (∀ k, S k = true ↔ k ∈ ns) → n ≤ ns.length → Q (.ref a) (upd H a (SetO w a S n))
theorem cr_setI (hc : X.calm = true) : CallR X (.type "set") (rSetI X.w X.K) := by
  intro pins s σ H xs us Q I r h
  obtain ⟨l, ns, rfl, hl, hz, q⟩ := h
  rw [Vals.ref1 r]
  obtain ⟨its, rv, pl, _⟩ := I.list hl
  have hn : H s.heap.objs.size = none := I.hok.fresh (Nat.le_refl _)
  refine set_ofI (P := X.prog) (w := X.w) (ns := ns) (I.ok.hd hc) pl.isList (by simpa using rv.ints) (by omega) fun h' tk c R hcn k => ?_
  exact ⟨.ref s.heap.objs.size, upd H s.heap.objs.size (SetO X.w s.heap.objs.size (fun j => decide (j ∈ ns)) c), I.laid (t' := tk) k (Nat.le_refl _) (setO_new R), rfl, q _ _ c hn (fun k => by rw [decide_eq_true_eq]) hcn⟩
end
end DW
set_option Elab.async false
set_option maxRecDepth 100000
set_option maxHeartbeats 4000000
set_option linter.all false
set_option autoImplicit false
/-! sorted sets; least pairs -/
namespace DW
variable [Tb]
open PySem PySem.Spec PyProof.Rows L2
section
variable {X : Cx}
/-- sorted(set(e)), e a list of some whole numbers -/
def tSortSet (K : PySem.W.Frag) (te : TE) : TE := fun σ H Q => te σ H fun x H1 => ∃ (l : Addr) (ns : List Int), x = .ref l ∧ SqL K H1 l (ns.map V.int) ∧ ns.length < 64 ∧ ∀ (ms : List Int) (a p : Addr) (o : HO), ms.Pairwise (· < ·) → (∀ k, k ∈ ms ↔ k ∈ ns) → H1 a = none → (upd H1 a o) p = none → Q (.ref p) (upd (upd H1 a o) p (.lst (ms.map V.int)))
theorem pe_at {e : Expr} {te : TE} (he : PE X e te) {σ : L2.St} {H : Hp} {R : VK} (h : te σ H R) : PE X e (fun σ' H' Q' => σ' = σ ∧ H' = H ∧ ∀ x H1, R x H1 → Q' x H1) :=
  ⟨fun pins s σ' H' Q' I z => by
    obtain ⟨rfl, rfl, hq⟩ := z
    exact wpAny_mono (he.run pins s σ' H' R I h) (fun v s' ⟨x, H1, I1, r, q⟩ => ⟨x, H1, I1, r, hq x H1 q⟩) fun _ _ z => z⟩
theorem pe_sortSet {e : Expr} {te : TE} {p p2 q pos : Pos} (hc : X.calm = true) (hg : Gl X "sorted") (hm : X.mg "sorted" = none) (hg2 : Gl X "set") (hm2 : X.mg "set" = none) (he : PE X e te)
    (s1 : starEach [e] X.env = (false, eval e X.env) :: starEach [] X.env) : PE X (.Call (.Name "sorted" p) [.Call (.Name "set" p2) [e] [] q] [] pos) (tSortSet X.K te) := by
  refine ⟨fun pins s σ H Q I h => ?_⟩
  have d := pe_callB (p := p) (pos := pos) (cr_sortedSet hc) hg hm (by rfl) (pa_cons (pe_callTy (p := p2) (pos := q) (cr_setI hc) hg2 hm2 (by rfl) (pa_cons (pe_at he h) pa_nil s1) (he := s1)) pa_nil)
  refine d.run pins s σ H Q I ⟨rfl, rfl, ?_⟩
  rintro x H1 ⟨l, ns, rfl, hl, hz, hq⟩
  refine ⟨l, ns, rfl, hl, hz, fun a S n ha hS hn => ⟨a, S, n, rfl, upd_same, by omega, fun ms p' hp1 hp2 _ hp => ?_⟩⟩
  exact hq ms a p' _ hp1 (fun k => (hp2 k).trans (hS k)) ha hp
end
section
variable {K : PySem.W.Frag} {w : Option Addr} {n : Nat} {ds : List (Option D)} {te : TE} {k : Kn}
theorem e_sortSet (h : WpE K w te ds n fun d n1 => ∃ ns : List Int, d = .lst (ns.map .int) ∧ ns.length < 64 ∧ ∀ ms : List Int, ms.Pairwise (· < ·) → (∀ j, j ∈ ms ↔ j ∈ ns) → k (.lst (ms.map .int)) n1) : WpE K w (tSortSet K te) ds n k := fun S H0 σ H Q re ok p =>
  h S H0 σ H _ re ok fun v H1 d n1 ⟨ns, e, hz, hk⟩ p1 ok1 r1 => by
    subst e
    obtain ⟨a, rfl, ha⟩ := lst_ints r1
    refine ⟨a, ns, rfl, SqL.of ha, hz, fun ms b q o h1 h2 hb hq => ?_⟩
    have ok2 : OkW K w S (upd H1 b o) n1 := ok1.new hb
    have ok3 : OkW K w S (upd (upd H1 b o) q (.lst (ms.map V.int))) n1 := ok2.new hq
    have pr : Pres w H1 (upd (upd H1 b o) q (.lst (ms.map V.int))) := (Pres.new hb).trans (Pres.new hq)
    exact p _ _ _ n1 (hk ms h1 h2) (p1.trans pr) ok3 (.lst (cut_new ok2 hq) (Rps.of_ints ms))
theorem rc_minPts {l : List (Int × Int)} (hne : l ≠ []) (hk : ∀ q, q ∈ l → (∀ r ∈ l, pLe q r) → k (ptD q) n) : RC K w (rMinU K) [.lst (l.map ptD)] n k := fun S vs H Q r ok p => by
  cases r with
  | cons a b =>
    cases b
    cases a with
    | lst hL hx =>
      refine .inr (.inr ⟨_, _, l, rfl, SqL.of (cut_some hL).2, ?_, hne, fun i q x hi hxi hle => ?_⟩)
      · have := hx.dp (pure_pts l)
        rw [toPys_pts] at this
        exact this
      · have hd : (l.map ptD)[i]? = some (ptD q) := by rw [List.getElem?_map, hi]; rfl
        obtain ⟨v, hv, rv⟩ := hx.get hd
        rw [hxi] at hv
        cases hv
        exact p _ H _ n (hk q (List.mem_of_getElem? hi) hle) Pres.refl ok rv
end
end DW
set_option Elab.async false
set_option maxRecDepth 100000
set_option maxHeartbeats 4000000
set_option linter.all false
set_option autoImplicit false
/-! a list of one's own and something computed behind it, put side by side -/
namespace DW
variable [Tb]
open PySem PySem.Spec PyProof.Rows L2
section
variable {K : PySem.W.Frag} {w : Option Addr} {ds : List (Option D)} {n : Nat} {ta tb : TE} {ks : KS}
theorem RpE.unset {S : Addr → Bool} {H0 H : Hp} {σ : L2.St} {i : Nat} {v : Option V} {x : Option D} (r : RpE K w S H0 H (σ.set i v) (ds.set i x)) (hi : ds[i]? = some none) : RpE K w S H0 H σ ds := by
  have ne : ∀ {j : Nat} {d : D}, ds[j]? = some (some d) → i ≠ j := fun {j d} h q => by subst q; rw [hi] at h; cases h
  refine ⟨by simpa using r.len, fun j d hj o => ?_, fun j m hj => ?_, fun j q l1 l2 c hjq h1 h2 h3 => ?_⟩
  · have q := ne hj
    have := r.get j d (by rw [List.getElem?_set_ne q]; exact hj) o
    rwa [List.getElem?_set_ne q] at this
  · have q := ne hj
    have := r.own j m (by rw [List.getElem?_set_ne q]; exact hj)
    rwa [List.getElem?_set_ne q] at this
  · have q1 := ne h1
    have q2 := ne h2
    have := r.dis j q l1 l2 c hjq (by rw [List.getElem?_set_ne q1]; exact h1) (by rw [List.getElem?_set_ne q2]; exact h2) (by rw [List.getElem?_set_ne q1]; exact h3)
    rwa [List.getElem?_set_ne q2] at this
theorem s_parOE {i j : Nat} (hij : i ≠ j) (hi : ds[i]? = some none) (h : WpF K w ta ds n fun l n1 => WpE K w tb ds n1 fun d n2 => isOwn d = false ∧ ks.nx ((ds.set i (some (.own l))).set j (some d)) n2) : WpS K w (tPar i j (tCons ta (tCons tb tNil))) ds n ks := fun S0 H0 S σ H E b r e =>
  h S H0 σ H _ r b.ok fun a H1 xs l n1 hk ha p1 ok1 hl hx => by
    have F : ∃ S', Base w K S0 H0 S' H1 n1 ∧ RpE K w S' H0 H1 (σ.set i (some (.ref a))) (ds.set i (some (.own l))) ∧ Ex (cut S H) (cut S' H1) :=
      own_put (S0 := S0) (H0 := H0) (k := { nx := fun ds' n' => ds' = ds.set i (some (.own l)) ∧ n' = n1, rt := fun _ _ => False })
        (E := { nx := fun σ' H' => ∃ S', Base w K S0 H0 S' H' n1 ∧ RpE K w S' H0 H' σ' (ds.set i (some (.own l))) ∧ Ex (cut S H) (cut S' H'), rt := fun _ _ => True, bk := fun _ _ => True, ct := fun _ _ => True })
        b r ⟨fun S' σ' H' ds' n' hz b' r' ex' => by obtain ⟨rfl, rfl⟩ := hz; exact ⟨S', b', r', ex'⟩, fun _ _ _ _ _ _ _ _ => trivial, fun _ _ _ _ _ _ _ _ _ => trivial, fun _ _ _ _ _ _ _ _ _ => trivial⟩ ⟨rfl, rfl⟩ ha p1 ok1 hl hx
    obtain ⟨S', b', r', ex'⟩ := F
    refine hk S' H0 σ H1 _ (r'.unset hi) b'.ok fun v H2 d n2 ⟨ho, hn⟩ p2 ok2 rv => ?_
    have r2 := (r'.up b'.ok p2).set rv ho (i := j)
    exact ⟨.ref a, v, rfl, e.nx S' _ H2 _ n2 hn (b'.up p2 ok2) r2 (ex'.trans (ex_cut b'.ok p2))⟩
theorem OkW.none_up {S : Addr → Bool} {H H' : Hp} {m : Nat} (ok : OkW K w S H m) (pr : Pres none H H') (ht : ∀ a, Tb.tab a = true → TabOk H' a) : OkW K w S H' m := by
  have keep : ∀ {a : Addr} {o : HO}, H a = some o → noT o = true → Tb.tab a = false → H' a = some o := fun {a o} h n t => pr.go a o ⟨fun q => (nomatch q), t⟩ h n
  refine ⟨fun p hp => ⟨(ok.1 p hp).1, ?_⟩, fun a h => ?_, fun a h => ⟨(ok.3 a h).1, ht a h⟩, fun a h => ?_⟩
  · obtain ⟨c, ix, left, ns, h1, h2, h3⟩ := (ok.1 p hp).2
    have tp : Tb.tab p = false := by
      cases z : Tb.tab p with
      | false => rfl
      | true =>
        have := (ok.3 p z).2
        unfold TabOk at this
        obtain ⟨x, e, _⟩ := this
        rw [h1] at e
        cases e
    obtain ⟨g1, g2, g3⟩ := cut_some3 h2
    have tc : Tb.tab c = false := by
      cases z : Tb.tab c with
      | false => rfl
      | true => have := (ok.3 c z).1; rw [g1] at this; cases this
    exact ⟨c, ix, left, ns, keep h1 rfl tp, cut_mk g1 (keep g2 g3 tc) g3, h3⟩
  · obtain ⟨o, e⟩ := ok.2 a h
    cases z : H' a with
    | some o => exact ⟨o, rfl⟩
    | none => rw [pr.back a z] at e; cases e
  · rcases ok.4 a h with t | ⟨o, e, po⟩
    · exact .inl t
    · cases t : Tb.tab a with
      | true => exact .inl rfl
      | false => exact .inr ⟨o, keep e (by cases o <;> first | rfl | cases po) t, po⟩
/-- a call of a way and a list of one's own that tells an integer and touches no pen -/
theorem e_callOwnI {sp : DSpW} {E : XK} {i : Nat} {l : List D} {k : Kn} (hi : ds[i]? = some (some (.own l))) (h : WpE K w ta ds n fun d n1 => sp none [d, .lst l] n1 fun e _ => ∃ z : Int, e = .int z ∧ k (.int z) n1) :
    WpE K w (tCall (toSp K sp) [] E (tCons ta (tCons (tVar i) tNil))) ds n k := fun S H0 σ H Q re ok p =>
  h S H0 σ H _ re ok fun v1 H1 d1 n1 hs p1 ok1 r1 => by
    have re1 := re.up ok p1
    obtain ⟨a, xs, h1, h2, h3, h4, h5, h6⟩ := re1.own i l hi
    have sub : ∀ c, subS S a c = true → S c = true := fun c hc => by unfold subS at hc; simp at hc; exact hc.1
    have ex : Ex (cut S H1) (cut (subS S a) H1) := cut_sub sub
    have af : subS S a a = false := by unfold subS; simp
    have mem : ∀ c, c ≠ a → S c = true → subS S a c = true := fun c hc z => by unfold subS; simp [z, hc]
    have okn : OkW K none (subS S a) H1 n1 := ⟨fun p hp => (nomatch hp), fun c hc => ok1.2 c (sub c hc), fun c hc => ⟨mem c (fun q => by subst q; rw [h3.2] at hc; cases hc) (ok1.3 c hc).1, (ok1.3 c hc).2⟩, fun c hc => ok1.4 c (sub c hc)⟩
    have rp : Rp K (cut (subS S a) H1) (.ref a) (.lst l) := .lst (cut_mk af h5) (h6.mono ex)
    refine ⟨.ref a, h1, ?_⟩
    refine ⟨none, subS S a, [d1, .lst l], n1, _, .cons (r1.mono ex) (.cons rp .nil), okn, hs, fun v H' d n' hk pr ok' r' => ?_⟩
    obtain ⟨z, rfl, hk⟩ := hk
    cases r'
    have pw : Pres w H1 H' := ⟨fun b o fr e t => pr.go b o ⟨fun q => (nomatch q), fr.2⟩ e t, pr.back⟩
    exact p _ H' _ n1 hk (p1.trans pw) (ok1.none_up pr fun b hb => (ok'.3 b hb).2) (.int z)
theorem set_five {α : Type} {σ : List α} {x v1 v2 v3 v4 : α} {i i1 i2 i3 i4 : Nat} (h1 : i ≠ i1) (h2 : i ≠ i2) (h3 : i ≠ i3) (h4 : i ≠ i4) : ((((σ.set i x).set i1 v1).set i2 v2).set i3 v3).set i4 v4 = ((((σ.set i1 v1).set i2 v2).set i3 v3).set i4 v4).set i x := by
  rw [List.set_comm x v1 h1, List.set_comm x v2 h2, List.set_comm x v3 h3, List.set_comm x v4 h4]
/-- a list of one's own and four integers out of one tuple -/
theorem s_tup5 {i i1 i2 i3 i4 : Nat} {a1 a2 a3 a4 : Int} (h1 : i ≠ i1) (h2 : i ≠ i2) (h3 : i ≠ i3) (h4 : i ≠ i4)
    (h : ks.nx (((((ds.set i1 (some (.int a1))).set i2 (some (.int a2))).set i3 (some (.int a3))).set i4 (some (.int a4))).set i (some (.own []))) n) :
    WpS K w (tAsg (tTup (tCons (tLst tNil) (tCons (tC (.int a1)) (tCons (tC (.int a2)) (tCons (tC (.int a3)) (tCons (tC (.int a4)) tNil)))))) (gTup K 5 (gCons (gName i) (gCons (gName i1) (gCons (gName i2) (gCons (gName i3) (gCons (gName i4) gNil))))))) ds n ks := fun S0 H0 S σ H E b r e => by
  have F : WpF K w (tLst tNil) ds n fun l n1 => l = [] ∧ n1 = n := f_lst (a_nil ⟨by simp, rfl, rfl⟩)
  unfold tAsg tTup
  refine F S H0 σ H _ r b.ok fun a H1 xs l n1 hk ha p1 ok1 hl hx => ?_
  obtain ⟨rfl, rfl⟩ := hk
  refine ⟨by show 5 ≤ sizeLine; decide, fun p hp => ?_⟩
  have ne : a ≠ p := fun q => by rw [q, hp] at hl; cases hl
  have ok2 : OkW K w (addS S a) (upd H1 p (.tup [.ref a, .int a1, .int a2, .int a3, .int a4])) n1 := ok1.new hp
  have hl2 : (upd H1 p (.tup [.ref a, .int a1, .int a2, .int a3, .int a4])) a = some (.lst xs) := by rw [upd_ne ne]; exact hl
  have r4 := (((r.set (.int a1 : Rp K (cut S H) (.int a1) (.int a1)) rfl (i := i1)).set (.int a2 : Rp K (cut S H) (.int a2) (.int a2)) rfl (i := i2)).set (.int a3 : Rp K (cut S H) (.int a3) (.int a3)) rfl (i := i3)).set (.int a4 : Rp K (cut S H) (.int a4) (.int a4)) rfl (i := i4)
  have z := own_put b r4 e h ha (p1.trans (Pres.new hp)) ok2 hl2 (hx.mono (ex_cut ok1 (Pres.new hp)))
  rw [← set_five h1 h2 h3 h4] at z
  exact ⟨p, _, rfl, SqT.of upd_same, rfl, _, _, rfl, _, _, rfl, _, _, rfl, _, _, rfl, _, _, rfl, rfl, z⟩
end
end DW
set_option Elab.async false
set_option maxRecDepth 100000
set_option maxHeartbeats 4000000
set_option linter.all false
set_option autoImplicit false
namespace K26
variable [DW.Tb]
open PySem PySem.Spec PyProof.Rows L2 DW
def k_LANES : List D := [.str "moments", .str "values"]
def k_KINDS : List D := [.str "order", .str "period"]
def r__law_pen (K : PySem.W.Frag)  : TS :=
  (tRet (tLst (tCons (tCB (rListU K) (tCons (tSl (rSlU K) (tVar 0) tNoPart (tPart (tC (.int 63)))) tNil)) (tCons (tC (.int 0)) (tCons (tC (.int 0)) tNil)))))
def r__law_draw (K : PySem.W.Frag)  : TS :=
  (tSeq (tIfS (tTest (tOp (rI0 fun i j => .bl (decide (j < i))) (tOp (rIx K) (tVar 0) (tC (.int 2))) (tC (.int 0)))) (tSeq (tAsg (tOp rModU (tCB rIntU (tCons (tOp (rIx K) (tVar 0) (tC (.int 2))) tNil)) (tVar 1)) (gName 2)) (tSeq (tAsg (tOp rDivU (tCB rIntU (tCons (tOp (rIx K) (tVar 0) (tC (.int 2))) tNil)) (tVar 1)) (gSub (tVar 0) (tC (.int 2)) rSetL)) (tRet (tVar 2)))) tNext) (tSeq (tAsg (tOp (rIx K) (tVar 0) (tC (.int 1))) (gName 3)) (tSeq (tAsg (tOp (rAddU K) (tVar 3) (tC (.int 1))) (gSub (tVar 0) (tC (.int 1)) rSetL)) (tSeq (tAsg (tOp (rAddU K) (tOp rMulU (tC (.int 40087)) (tVar 3)) (tC (.int 3011))) (gName 4)) (tSeq (tIfS (tTest (tOp (rNeU K) (tOp (rIx K) (tVar 0) (tC (.int 0))) (tLst tNil))) (tAsg (tOp (rIx K) (tOp (rIx K) (tVar 0) (tC (.int 0))) (tOp rModU (tCB rIntU (tCons (tVar 3) tNil)) (tCB (rLenU K) (tCons (tOp (rIx K) (tVar 0) (tC (.int 0))) tNil)))) (gName 4)) tNext) (tSeq (tIfS (tAnd (tTest (tOp (rI0 fun i j => .bl (decide (i < j))) (tVar 3) (tCB (rLenU K) (tCons (tOp (rIx K) (tVar 0) (tC (.int 0))) tNil)))) (tTest (tOp (rI0 fun i j => .bl (decide (j ≤ i))) (tCB rAbsU (tCons (tVar 4) tNil)) (tOp (rI CPow fun i j => .int (i ^ j.toNat)) (tC (.int 10)) (tC (.int 18)))))) (tSeq (tAsg (tOp (rAddU K) (tOp rMulU (tC (.int 2)) (tOp (rI0 fun i j => .int (i - j)) (tCB rAbsU (tCons (tVar 4) tNil)) (tOp (rI CPow fun i j => .int (i ^ j.toNat)) (tC (.int 10)) (tC (.int 18))))) (tCB rIntU (tCons (tOp (rI0 fun i j => .bl (decide (i < j))) (tVar 4) (tC (.int 0))) tNil))) (gName 5)) (tSeq (tAsg (tOp rDivU (tCB rIntU (tCons (tVar 5) tNil)) (tVar 1)) (gSub (tVar 0) (tC (.int 2)) rSetL)) (tRet (tOp rModU (tCB rIntU (tCons (tVar 5) tNil)) (tVar 1))))) tNext) (tSeq (tAsg (tOp rModU (tCB rIntU (tCons (tOp (rI CPow fun i j => .int (i ^ j.toNat)) (tOp (rAddU K) (tOp (rAddU K) (tOp rModU (tCB rIntU (tCons (tVar 4) tNil)) (tC (.int 2147483563))) (tOp rMulU (tC (.int 51199)) (tVar 3))) (tC (.int 3011))) (tC (.int 3))) tNil)) (tC (.int 2147483629))) (gName 6)) (tSeq (tAsg (tOp rModU (tCB rIntU (tCons (tOp (rI CPow fun i j => .int (i ^ j.toNat)) (tOp (rAddU K) (tOp (rAddU K) (tOp rMulU (tVar 6) (tOp (rAddU K) (tOp rMulU (tC (.int 2)) (tVar 3)) (tC (.int 409)))) (tOp rMulU (tOp rMulU (tC (.int 51199)) (tVar 3)) (tVar 3))) (tC (.int 211))) (tC (.int 5))) tNil)) (tC (.int 2147483587))) (gName 6)) (tRet (tOp rModU (tCB rIntU (tCons (tOp rDivU (tVar 6) (tC (.int 32))) tNil)) (tVar 1)))))))))))
def r__law_way (K : PySem.W.Frag) (S__law_draw : Sp) : TS :=
  (tSeq (tIfS (tTest (tOp (rEqU K) (tVar 1) (tC (.str "moments")))) (tRet (tTup (tCons (tC (.str "order")) (tCons (tCall S__law_draw [] E0 (tCons (tVar 0) (tCons (tC (.int 3)) tNil))) tNil)))) tNext) (tRet (tIf (tTest (tOp (rI0 fun i j => .bl (decide (j < i))) (tCall S__law_draw [] E0 (tCons (tVar 0) (tCons (tC (.int 3)) tNil))) (tC (.int 0)))) (tTup (tCons (tC (.str "order")) (tCons (tCall S__law_draw [] E0 (tCons (tVar 0) (tCons (tC (.int 4)) tNil))) tNil))) (tTup (tCons (tC (.str "period")) (tCons (tOp (rAddU K) (tC (.int 1)) (tCall S__law_draw [] E0 (tCons (tVar 0) (tCons (tC (.int 8)) tNil)))) tNil))))))
def r_is_listed (K : PySem.W.Frag)  : TS :=
  (tRet (tIsi2 K (tVar 0) (.ty "list") (.ty "tuple")))
def r_is_integer (K : PySem.W.Frag)  : TS :=
  (tRet (tAndV (tCB (rIsiU K) (tCons (tVar 0) (tCons (tC (.ty "int")) tNil))) (tNotV (tCB (rIsiU K) (tCons (tVar 0) (tCons (tC (.ty "bool")) tNil))))))
def r_is_within (K : PySem.W.Frag) (S_is_integer : Sp) : TS :=
  (tRet (tAndV (tCall S_is_integer [] E0 (tCons (tVar 0) tNil)) (tAndV (tOrV (tOp rIsU (tVar 1) (tC .non)) (tOp (rI0 fun i j => .bl (decide (j ≤ i))) (tVar 0) (tVar 1))) (tOrV (tOp rIsU (tVar 2) (tC .non)) (tOp (rI0 fun i j => .bl (decide (i ≤ j))) (tVar 0) (tVar 2))))))
def r_is_way (K : PySem.W.Frag) (S_is_listed : Sp) (S_is_within : Sp) : TS :=
  (tSeq (tIfS (tOr (tNot (tB (tCall S_is_listed [] E0 (tCons (tVar 1) tNil)))) (tOr (tTest (tOp (rNeU K) (tCB (rLenU K) (tCons (tVar 1) tNil)) (tC (.int 2)))) (tOr (tNot (tB (tCB (rIsiU K) (tCons (tOp (rIx K) (tVar 1) (tC (.int 0))) (tCons (tC (.ty "str")) tNil))))) (tTest (tOp (rInU K true) (tVar 0) (tKT K k_LANES)))))) (tRet (tC (.bl false))) tNext) (tSeq (tIfS (tTest (tOp (rEqU K) (tOp (rIx K) (tVar 1) (tC (.int 0))) (tC (.str "order")))) (tRet (tCall S_is_within [] E0 (tCons (tOp (rIx K) (tVar 1) (tC (.int 1))) (tCons (tC (.int 0)) (tCons (tIf (tTest (tOp (rEqU K) (tVar 0) (tC (.str "values")))) (tC (.int 3)) (tOp (rI0 fun i j => .int (i - j)) (tC (.int 3)) (tC (.int 1)))) tNil))))) tNext) (tRet (tAndV (tOp (rEqU K) (tOp (rIx K) (tVar 1) (tC (.int 0))) (tC (.str "period"))) (tAndV (tOp (rEqU K) (tVar 0) (tC (.str "values"))) (tCall S_is_within [] E0 (tCons (tOp (rIx K) (tVar 1) (tC (.int 1))) (tCons (tC (.int 1)) (tCons (tC (.int 8)) tNil)))))))))
def r_need_way (K : PySem.W.Frag) (S_is_way : Sp) : TS :=
  (tIfS (tNot (tB (tCall S_is_way [] E0 (tCons (tVar 1) (tCons (tVar 2) tNil))))) tNever tNext)
def r_is_token (K : PySem.W.Frag) (S_is_integer : Sp) (S_is_listed : Sp) (S_is_within : Sp) : TS :=
  (tSeq (tIfS (tB (tCall S_is_integer [] E0 (tCons (tVar 0) tNil))) (tRet (tC (.bl true))) tNext) (tSeq (tIfS (tOr (tNot (tB (tCall S_is_listed [] E0 (tCons (tVar 0) tNil)))) (tOr (tTest (tOp (rNeU K) (tCB (rLenU K) (tCons (tVar 0) tNil)) (tC (.int 2)))) (tNot (tB (tCB (rIsiU K) (tCons (tOp (rIx K) (tVar 0) (tC (.int 0))) (tCons (tC (.ty "str")) tNil))))))) (tRet (tC (.bl false))) tNext) (tSeq (tIfS (tTest (tOp (rEqU K) (tOp (rIx K) (tVar 0) (tC (.int 0))) (tC (.str "run")))) (tRet (tCall S_is_within [] E0 (tCons (tOp (rIx K) (tVar 0) (tC (.int 1))) (tCons (tC (.int 1)) (tCons (tC (.int 36)) tNil))))) tNext) (tRet (tAndV (tOp (rEqU K) (tOp (rIx K) (tVar 0) (tC (.int 0))) (tC (.str "far"))) (tCall S_is_integer [] E0 (tCons (tOp (rIx K) (tVar 0) (tC (.int 1))) tNil)))))))
def r_need_tokens (K : PySem.W.Frag) (S_is_listed : Sp) (S_is_token : Sp) : TS :=
  (tIfS (tOr (tNot (tB (tCall S_is_listed [] E0 (tCons (tVar 1) tNil)))) (tNot (tB (tCB (rAll K) (tCons (tLc (iSeq K (tVar 1)) (gName 2) tYes (tCall S_is_token [] E0 (tCons (tVar 2) tNil)) [2]) tNil))))) tNever tNext)
def r_many_by (K : PySem.W.Frag) (S_is_listed : Sp) : TS :=
  (tSeq (tAsg (tC (.int 1)) (gName 1)) (tSeq (tIfS (tAnd (tB (tCall S_is_listed [] E0 (tCons (tVar 0) tNil))) (tTest (tOp (rEqU K) (tOp (rIx K) (tVar 0) (tC (.int 0))) (tC (.str "run"))))) (tFor (iRng1 (tCons (tOp (rIx K) (tVar 0) (tC (.int 1))) tNil)) (gName 2) (tAsg (tOp rMulU (tC (.int 2)) (tVar 1)) (gName 1))) tNext) (tRet (tVar 1))))
def r_how_many (K : PySem.W.Frag) (S_need_tokens : Sp) (S_many_by : Sp) : TS :=
  (tSeq (tDrop (tCall S_need_tokens [] E0 (tCons (tC (.str "tokens")) (tCons (tVar 0) tNil)))) (tRet (tCB (rSumU K) (tCons (tLc (iSeq K (tVar 0)) (gName 1) tYes (tCall S_many_by [] E0 (tCons (tVar 1) tNil)) [1]) tNil))))
def r_reach_of (K : PySem.W.Frag)  : TS :=
  (tRet (tOp (rIx K) (tVar 0) (tC (.int 1))))
def r_begin_of (K : PySem.W.Frag) (S_reach_of : Sp) : TS :=
  (tRet (tOp rMulU (tLst (tCons (tC (.int 0)) tNil)) (tCall S_reach_of [] E0 (tCons (tVar 0) tNil))))
def r_next_by (K : PySem.W.Frag)  : TS :=
  (tSeq (tIfS (tTest (tOp (rEqU K) (tOp (rIx K) (tVar 0) (tC (.int 0))) (tC (.str "period")))) (tRet (tOp (rIx K) (tVar 1) (tC (.int 0)))) tNext) (tSeq (tIfS (tTest (tOp (rEqU K) (tOp (rIx K) (tVar 0) (tC (.int 1))) (tC (.int 0)))) (tRet (tC (.int 0))) tNext) (tSeq (tIfS (tTest (tOp (rEqU K) (tOp (rIx K) (tVar 0) (tC (.int 1))) (tC (.int 1)))) (tRet (tOp (rIx K) (tVar 1) (tC (.int 0)))) tNext) (tSeq (tIfS (tTest (tOp (rEqU K) (tOp (rIx K) (tVar 0) (tC (.int 1))) (tC (.int 2)))) (tRet (tOp (rI0 fun i j => .int (i - j)) (tOp rMulU (tC (.int 2)) (tOp (rIx K) (tVar 1) (tC (.int 1)))) (tOp (rIx K) (tVar 1) (tC (.int 0))))) tNext) (tRet (tOp (rAddU K) (tOp (rI0 fun i j => .int (i - j)) (tOp rMulU (tC (.int 3)) (tOp (rIx K) (tVar 1) (tC (.int 2)))) (tOp rMulU (tC (.int 3)) (tOp (rIx K) (tVar 1) (tC (.int 1))))) (tOp (rIx K) (tVar 1) (tC (.int 0)))))))))
def r_difference_by (K : PySem.W.Frag) (S_is_integer : Sp) : TS :=
  (tRet (tIf (tB (tCall S_is_integer [] E0 (tCons (tVar 0) tNil))) (tVar 0) (tOp (rIx K) (tVar 0) (tC (.int 1)))))
def r_moved (K : PySem.W.Frag)  : TS :=
  (tRet (tIf (tTest (tOp (rNeU K) (tVar 0) (tLst tNil))) (tSl (rSlU K) (tLst (StX.tStar K (tVar 0) (tCons (tVar 1) tNil))) (tPart (tC (.int 1))) tNoPart) (tLst tNil)))
def r_numbers_of (K : PySem.W.Frag) (S_need_way : Sp) (S_how_many : Sp) (S_begin_of : Sp) (S_many_by : Sp) (S_next_by : Sp) (S_difference_by : Sp) (S_moved : Sp) : TS :=
  (tSeq (tDrop (tCall S_need_way [] E0 (tCons (tC (.str "way")) (tCons (tC (.str "values")) (tCons (tVar 0) tNil))))) (tSeq (tIfS (tTest (tOp (rI0 fun i j => .bl (decide (j < i))) (tCall S_how_many [] E0 (tCons (tVar 1) tNil)) (tC (.int 100000)))) tNever tNext) (tSeq (tPar 2 3 (tCons (tLst tNil) (tCons (tCall S_begin_of [] E0 (tCons (tVar 0) tNil)) tNil))) (tSeq (tFor (iSeq K (tVar 1)) (gName 4) (tSeq (tAsg (tOp (rI0 fun i j => .bl (decide (j < i))) (tCall S_many_by [] E0 (tCons (tVar 4) tNil)) (tC (.int 1))) (gName 5)) (tFor (iRng1 (tCons (tCall S_many_by [] E0 (tCons (tVar 4) tNil)) tNil)) (gName 6) (tSeq (tAsg (tOp (rAddU K) (tCall S_next_by [] E0 (tCons (tVar 0) (tCons (tVar 3) tNil))) (tIf (tB (tVar 5)) (tC (.int 0)) (tCall S_difference_by [] E0 (tCons (tVar 4) tNil)))) (gName 7)) (tSeq (tDrop (tBM K "list" rAppend (tVar 2) (tCons (tVar 7) tNil))) (tAsg (tCall S_moved [] E0 (tCons (tVar 3) (tCons (tVar 7) tNil))) (gName 3))))))) (tRet (tCB (rTupU K) (tCons (tVar 2) tNil)))))))
def r__law_next (K : PySem.W.Frag)  : TS :=
  (tSeq (tAsg (tOp (rAddU K) (tOp rMulU (tLst (tCons (tC (.int 0)) tNil)) (tC (.int 8))) (tCB (rListU K) (tCons (tVar 1) tNil))) (gName 2)) (tSeq (tIfS (tTest (tOp (rEqU K) (tOp (rIx K) (tVar 0) (tC (.int 0))) (tC (.str "period")))) (tRet (tOp (rIx K) (tVar 2) (tOp (rI0 fun i j => .int (i - j)) (tCB (rLenU K) (tCons (tVar 2) tNil)) (tOp (rIx K) (tVar 0) (tC (.int 1)))))) tNext) (tSeq (tPar3 3 4 5 (tCons (tOp (rIx K) (tVar 2) (tUn (rU fun i => .int (-i)) (tC (.int 1)))) (tCons (tOp (rIx K) (tVar 2) (tUn (rU fun i => .int (-i)) (tC (.int 2)))) (tCons (tOp (rIx K) (tVar 2) (tUn (rU fun i => .int (-i)) (tC (.int 3)))) tNil)))) (tRet (tOp (rIx K) (tLst (tCons (tC (.int 0)) (tCons (tVar 3) (tCons (tOp (rAddU K) (tVar 3) (tOp (rI0 fun i j => .int (i - j)) (tVar 3) (tVar 4))) (tCons (tOp (rAddU K) (tOp (rAddU K) (tVar 3) (tOp (rI0 fun i j => .int (i - j)) (tVar 3) (tVar 4))) (tOp (rAddU K) (tOp (rI0 fun i j => .int (i - j)) (tVar 3) (tOp rMulU (tC (.int 2)) (tVar 4))) (tVar 5))) tNil))))) (tOp (rIx K) (tVar 0) (tC (.int 1))))))))
def r__law_numbers (K : PySem.W.Frag) (S__law_next : Sp) : TS :=
  (tSeq (tAsg (tLst tNil) (gName 2)) (tSeq (tFor (iSeq K (tVar 1)) (gName 3) (tSeq (tAsg (tIf (tB (tCB (rIsiU K) (tCons (tVar 3) (tCons (tC (.ty "tuple")) tNil)))) (tOp (rIx K) (tVar 3) (tC (.int 0))) (tC (.str "near"))) (gName 4)) (tFor (iRng1 (tCons (tIf (tAnd (tTest (tOp (rEqU K) (tVar 4) (tC (.str "run")))) (tTest (tOp (rEqU K) (tOp (rIx K) (tVar 3) (tC (.int 1))) (tC (.int 6))))) (tOp (rI CPow fun i j => .int (i ^ j.toNat)) (tC (.int 2)) (tC (.int 6))) (tIf (tTest (tOp (rEqU K) (tVar 4) (tC (.str "run")))) (tOp (rIx K) (tLst (tCons (tC (.int 1)) (tCons (tC (.int 2)) (tCons (tC (.int 4)) (tCons (tC (.int 8)) (tCons (tC (.int 16)) (tCons (tC (.int 32)) tNil))))))) (tOp (rIx K) (tVar 3) (tC (.int 1)))) (tC (.int 1)))) tNil)) (gName 5) (tSeq (tAsg (tIf (tTest (tOp (rEqU K) (tVar 4) (tC (.str "run")))) (tC (.int 0)) (tIf (tTest (tOp (rEqU K) (tVar 4) (tC (.str "far")))) (tOp (rIx K) (tVar 3) (tC (.int 1))) (tVar 3))) (gName 6)) (tDrop (tBM K "list" rAppend (tVar 2) (tCons (tOp (rAddU K) (tCall S__law_next [] E0 (tCons (tVar 0) (tCons (tVar 2) tNil))) (tVar 6)) tNil))))))) (tRet (tVar 2))))
def r__law_differences (K : PySem.W.Frag)  : TS :=
  (tSeq (tAsg (tCB (rListU K) (tCons (tVar 0) tNil)) (gName 2)) (tSeq (tFor (iRng1 (tCons (tVar 1) tNil)) (gName 3) (tAsg (tLc (iZip K (tCons (tVar 2) (tCons (tSl (rSlU K) (tVar 2) (tPart (tC (.int 1))) tNoPart) tNil))) (gTup K 2 (gCons (gName 4) (gCons (gName 5) gNil))) tYes (tOp (rI0 fun i j => .int (i - j)) (tVar 5) (tVar 4)) [4, 5]) (gName 2))) (tRet (tVar 2))))
def r_foretold (K : PySem.W.Frag) (S_need_way : Sp) (S_is_listed : Sp) (S_is_integer : Sp) (S_reach_of : Sp) (S_next_by : Sp) (S_begin_of : Sp) : TS :=
  (tSeq (tDrop (tCall S_need_way [] E0 (tCons (tC (.str "way")) (tCons (tC (.str "values")) (tCons (tVar 0) tNil))))) (tSeq (tIfS (tOr (tNot (tB (tCall S_is_listed [] E0 (tCons (tVar 1) tNil)))) (tNot (tB (tCB (rAll K) (tCons (tLc (iSeq K (tVar 1)) (gName 3) tYes (tCall S_is_integer [] E0 (tCons (tVar 3) tNil)) [3]) tNil))))) tNever tNext) (tSeq (tAsg (tCall S_reach_of [] E0 (tCons (tVar 0) tNil)) (gName 2)) (tRet (tIf (tTest (tOp (rI0 fun i j => .bl (decide (j < i))) (tVar 2) (tC (.int 0)))) (tCall S_next_by [] E0 (tCons (tVar 0) (tCons (tSl (rSlU K) (tLst (StX.tStar K (tCall S_begin_of [] E0 (tCons (tVar 0) tNil)) (StX.tStar K (tVar 1) tNil))) (tPart (tCB (rLenU K) (tCons (tVar 1) tNil))) tNoPart) tNil))) (tC (.int 0)))))))
def r__law_right (K : PySem.W.Frag) (S__law_way : Sp) (S__law_draw : Sp) (S_numbers_of : Sp) (S__law_numbers : Sp) (S__law_differences : Sp) (S_foretold : Sp) (S__law_next : Sp) : TS :=
  (tSeq (tAsg (tTup (tCons (tCall S__law_way [] E0 (tCons (tVar 0) (tCons (tC (.str "values")) tNil))) (tCons (tOp (rAddU K) (tC (.int 1)) (tCall S__law_draw [] E0 (tCons (tVar 0) (tCons (tC (.int 12)) tNil)))) tNil))) (gTup K 2 (gCons (gName 1) (gCons (gName 2) gNil)))) (tSeq (tAsg (tLc (iRng1 (tCons (tCall S__law_draw [] E0 (tCons (tVar 0) (tCons (tC (.int 10)) tNil))) tNil)) (gName 7) tYes (tOp (rI0 fun i j => .int (i - j)) (tCall S__law_draw [] E0 (tCons (tVar 0) (tCons (tC (.int 201)) tNil))) (tC (.int 100))) [7]) (gName 3)) (tSeq (tAsg (tCall S_numbers_of [] E0 (tCons (tVar 1) (tCons (tOp (rAddU K) (tVar 3) (tLst (tCons (tTup (tCons (tC (.str "run")) (tCons (tVar 2) tNil))) tNil))) tNil))) (gName 4)) (tSeq (tAsg (tOp (rAddU K) (tCB (rLenU K) (tCons (tVar 3) tNil)) (tOp (rIx K) (tLst (tCons (tC (.int 2)) (tCons (tC (.int 4)) (tCons (tC (.int 8)) (tCons (tC (.int 16)) (tCons (tC (.int 32)) (tCons (tC (.int 64)) (tCons (tC (.int 128)) (tCons (tC (.int 256)) (tCons (tC (.int 512)) (tCons (tC (.int 1024)) (tCons (tC (.int 2048)) (tCons (tC (.int 4096)) tNil))))))))))))) (tOp (rI0 fun i j => .int (i - j)) (tVar 2) (tC (.int 1))))) (gName 5)) (tSeq (tIfS (tOr (tTest (tOp (rNeU K) (tCB (rLenU K) (tCons (tVar 4) tNil)) (tVar 5))) (tOr (tTest (tOp (rNeU K) (tCB (rListU K) (tCons (tSl (rSlU K) (tVar 4) tNoPart (tPart (tCB (rLenU K) (tCons (tVar 3) tNil)))) tNil)) (tCall S__law_numbers [] E0 (tCons (tVar 1) (tCons (tVar 3) tNil))))) (tTest (tOp (rNeU K) (tLc (iSeq K (tVar 4)) (gName 8) (tNot (tB (tCB (rIsiU K) (tCons (tVar 8) (tCons (tC (.ty "int")) tNil))))) (tVar 8) [8]) (tLst tNil))))) (tRet (tC (.bl false))) tNext) (tSeq (tIfS (tTest (tOp (rEqU K) (tOp (rIx K) (tVar 1) (tC (.int 0))) (tC (.str "period")))) (tSeq (tAsg (tOp (rAddU K) (tOp rMulU (tLst (tCons (tC (.int 0)) tNil)) (tOp (rIx K) (tVar 1) (tC (.int 1)))) (tCB (rListU K) (tCons (tVar 4) tNil))) (gName 6)) (tRet (tOp (rEqU K) (tLc (iRng2 (tCons (tOp (rAddU K) (tCB (rLenU K) (tCons (tVar 3) tNil)) (tOp (rIx K) (tVar 1) (tC (.int 1)))) (tCons (tCB (rLenU K) (tCons (tVar 6) tNil)) tNil))) (gName 9) (tTest (tOp (rNeU K) (tOp (rIx K) (tVar 6) (tVar 9)) (tOp (rIx K) (tVar 6) (tOp (rI0 fun i j => .int (i - j)) (tVar 9) (tOp (rIx K) (tVar 1) (tC (.int 1))))))) (tVar 9) [9]) (tLst tNil)))) tNext) (tSeq (tAsg (tSl (rSlU K) (tOp (rAddU K) (tOp rMulU (tLst (tCons (tC (.int 0)) tNil)) (tOp (rIx K) (tVar 1) (tC (.int 1)))) (tCB (rListU K) (tCons (tVar 4) tNil))) (tPart (tCB (rLenU K) (tCons (tVar 3) tNil))) tNoPart) (gName 6)) (tRet (tAndV (tOp (rEqU K) (tLc (iSeq K (tCall S__law_differences [] E0 (tCons (tVar 6) (tCons (tOp (rIx K) (tVar 1) (tC (.int 1))) tNil)))) (gName 10) (tTest (tOp (rNeU K) (tVar 10) (tC (.int 0)))) (tVar 10) [10]) (tLst tNil)) (tOp (rEqU K) (tCall S_foretold [] E0 (tCons (tVar 1) (tCons (tVar 4) tNil))) (tCall S__law_next [] E0 (tCons (tVar 1) (tCons (tVar 4) tNil)))))))))))))
def r_padded (K : PySem.W.Frag)  : TS :=
  (tRet (tSl (rSlU K) (tLst (StX.tStar K (tVar 0) (tCons (tC (.int 0)) (tCons (tC (.int 0)) tNil)))) tNoPart (tPart (tC (.int 3)))))
def r_trimmed (K : PySem.W.Frag)  : TS :=
  (tSeq (tAsg (tSl (rSlU K) (tCB (rListU K) (tCons (tVar 0) tNil)) tNoPart (tPart (tVar 1))) (gName 2)) (tSeq (tWhile (tAnd (tTest (tOp (rI0 fun i j => .bl (decide (j < i))) (tCB (rLenU K) (tCons (tVar 2) tNil)) (tC (.int 1)))) (tTest (tOp (rEqU K) (tOp (rIx K) (tVar 2) (tUn (rU fun i => .int (-i)) (tC (.int 1)))) (tC (.int 0))))) (tDrop (tBM0 K "list" rPop (tVar 2)))) (tRet (tVar 2))))
def r_pairs_of (K : PySem.W.Frag)  : TS :=
  (tRet (tOp rDivU (tOp rMulU (tVar 0) (tOp (rI0 fun i j => .int (i - j)) (tVar 0) (tC (.int 1)))) (tC (.int 2))))
def r_number_at (K : PySem.W.Frag) (S_padded : Sp) (S_pairs_of : Sp) : TS :=
  (tSeq (tIfS (tTest (tOp (rEqU K) (tVar 0) (tC (.str "period")))) (tRet (tOp (rIx K) (tVar 1) (tOp rModU (tVar 2) (tCB (rLenU K) (tCons (tVar 1) tNil))))) tNext) (tSeq (tAsg (tCall S_padded [] E0 (tCons (tVar 1) tNil)) (gLst K 3 (gCons (gName 3) (gCons (gName 4) (gCons (gName 5) gNil))))) (tRet (tOp (rAddU K) (tOp (rAddU K) (tVar 3) (tOp rMulU (tVar 4) (tVar 2))) (tOp rMulU (tVar 5) (tCall S_pairs_of [] E0 (tCons (tVar 2) tNil)))))))
def r_part_of (K : PySem.W.Frag) (S_padded : Sp) (S_trimmed : Sp) (S_number_at : Sp) : TS :=
  (tSeq (tIfS (tTest (tOp (rEqU K) (tVar 0) (tC (.str "period")))) (tRet (tLc (iRng1 (tCons (tCB (rMinU K) (tCons (tCB (rLenU K) (tCons (tVar 1) tNil)) (tCons (tVar 3) tNil))) tNil)) (gName 7) tYes (tOp (rIx K) (tVar 1) (tOp rModU (tOp (rAddU K) (tVar 2) (tVar 7)) (tCB (rLenU K) (tCons (tVar 1) tNil)))) [7])) tNext) (tSeq (tAsg (tCall S_padded [] E0 (tCons (tVar 1) tNil)) (gLst K 3 (gCons (gName 4) (gCons (gName 5) (gCons (gName 6) gNil))))) (tRet (tCall S_trimmed [] E0 (tCons (tLst (tCons (tCall S_number_at [] E0 (tCons (tVar 0) (tCons (tVar 1) (tCons (tVar 2) tNil)))) (tCons (tOp (rAddU K) (tVar 5) (tOp rMulU (tVar 6) (tVar 2))) (tCons (tVar 6) tNil)))) (tCons (tVar 3) tNil))))))
def r_cut_row (K : PySem.W.Frag) (S_part_of : Sp) : TS :=
  (tRet (tTup (tCons (tOp (rIx K) (tVar 0) (tC (.int 1))) (tCons (tCall S_part_of [] E0 (tCons (tOp (rIx K) (tVar 0) (tC (.int 1))) (tCons (tOp (rIx K) (tVar 0) (tC (.int 2))) (tCons (tVar 1) (tCons (tVar 2) tNil))))) tNil))))
def r_moments_of (K : PySem.W.Frag) (S_padded : Sp) : TS :=
  (tSeq (tAsg (tCall S_padded [] E0 (tCons (tVar 1) tNil)) (gLst K 3 (gCons (gName 3) (gCons (gName 4) (gCons (gName 5) gNil))))) (tRet (tTup (tCons (tVar 3) (tCons (tIf (tTest (tOp (rI0 fun i j => .bl (decide (j < i))) (tVar 2) (tC (.int 1)))) (tVar 4) (tC (.int 0))) tNil)))))
def r_fixed (K : PySem.W.Frag) (S_fixed : Sp) : TS :=
  (tSeq (tIfS (tB (tIsi2 K (tVar 0) (.ty "list") (.ty "tuple"))) (tRet (tCB (rTupU K) (tCons (tLc (iSeq K (tVar 0)) (gName 1) tYes (tCall S_fixed [] E0 (tCons (tVar 1) tNil)) [1]) tNil))) tNext) (tRet (tVar 0)))
def r_Paper_init (K : PySem.W.Frag) (S_fixed : Sp) : TS :=
  (tSeq (sFld K (tVar 0) (tVar 1) "word") (sFld K (tVar 0) (tCall S_fixed [] E0 (tCons (tVar 2) tNil)) "parts"))
def r_Piece_init (K : PySem.W.Frag)  : TS :=
  (tAsg (tFld K (tVar 0) "parts") (gTup K 5 (gCons (gAttr K (tVar 0) "moment") (gCons (gAttr K (tVar 0) "step") (gCons (gAttr K (tVar 0) "count") (gCons (gAttr K (tVar 0) "kind") (gCons (gAttr K (tVar 0) "numbers") gNil)))))))
def a_Piece_init (K : PySem.W.Frag)  : TA :=
  (tCons (tC (.str "piece")) (tCons (tVar 1) (tCons (tVar 2) (tCons (tVar 3) (tCons (tVar 4) (tCons (tVar 5) tNil))))))
def r_zipped (K : PySem.W.Frag) (S_cut_row : Sp) (S_moments_of : Sp) (C_Piece : Addr) (S_Piece : Sp) : TS :=
  (tSeq (tAsg (tTup (tCons (tLst tNil) (tCons (tC (.int 0)) (tCons (tC (.int 0)) (tCons (tC (.int 0)) (tCons (tC (.int 0)) tNil)))))) (gTup K 5 (gCons (gName 2) (gCons (gName 3) (gCons (gName 4) (gCons (gName 5) (gCons (gName 6) gNil))))))) (tSeq (tWhile (tTest (tOp (rI0 fun i j => .bl (decide (i < j))) (tVar 3) (tCB (rLenU K) (tCons (tVar 0) tNil)))) (tSeq (tAsg (tCB (rMinU K) (tCons (tOp (rI0 fun i j => .int (i - j)) (tOp (rIx K) (tOp (rIx K) (tVar 0) (tVar 3)) (tC (.int 0))) (tVar 5)) (tCons (tOp (rI0 fun i j => .int (i - j)) (tOp (rIx K) (tOp (rIx K) (tVar 1) (tVar 4)) (tC (.int 0))) (tVar 6)) tNil))) (gName 7)) (tSeq (tAsg (tCall S_cut_row [] E0 (tCons (tOp (rIx K) (tVar 0) (tVar 3)) (tCons (tVar 5) (tCons (tVar 7) tNil)))) (gTup K 2 (gCons (gName 8) (gCons (gName 9) gNil)))) (tSeq (tAsg (tCall S_moments_of [] E0 (tCons (tVar 8) (tCons (tVar 9) (tCons (tVar 7) tNil)))) (gTup K 2 (gCons (gName 10) (gCons (gName 11) gNil)))) (tSeq (tAsg (tCall S_cut_row [] E0 (tCons (tOp (rIx K) (tVar 1) (tVar 4)) (tCons (tVar 6) (tCons (tVar 7) tNil)))) (gTup K 2 (gCons (gName 8) (gCons (gName 9) gNil)))) (tSeq (tDrop (tBM K "list" rAppend (tVar 2) (tCons (tMake C_Piece S_Piece [] E0 (tCons (tVar 10) (tCons (tVar 11) (tCons (tVar 7) (tCons (tVar 8) (tCons (tVar 9) tNil)))))) tNil))) (tSeq (tPar 5 6 (tCons (tOp (rAddU K) (tVar 5) (tVar 7)) (tCons (tOp (rAddU K) (tVar 6) (tVar 7)) tNil))) (tSeq (tIfS (tTest (tOp (rEqU K) (tVar 5) (tOp (rIx K) (tOp (rIx K) (tVar 0) (tVar 3)) (tC (.int 0))))) (tPar 3 5 (tCons (tOp (rAddU K) (tVar 3) (tC (.int 1))) (tCons (tC (.int 0)) tNil))) tNext) (tIfS (tTest (tOp (rEqU K) (tVar 6) (tOp (rIx K) (tOp (rIx K) (tVar 1) (tVar 4)) (tC (.int 0))))) (tPar 4 6 (tCons (tOp (rAddU K) (tVar 4) (tC (.int 1))) (tCons (tC (.int 0)) tNil))) tNext))))))))) (tRet (tCB (rTupU K) (tCons (tVar 2) tNil)))))
def r_run_by (K : PySem.W.Frag) (S_next_by : Sp) (S_moved : Sp) (S_trimmed : Sp) : TS :=
  (tSeq (tIfS (tTest (tOp (rEqU K) (tOp (rIx K) (tVar 0) (tC (.int 0))) (tC (.str "period")))) (tRet (tTup (tCons (tC (.str "period")) (tCons (tSl (rSlU K) (tCB (rListU K) (tCons (tVar 1) tNil)) tNoPart (tPart (tVar 2))) tNil)))) tNext) (tSeq (tPar 3 4 (tCons (tLst tNil) (tCons (tVar 1) tNil))) (tSeq (tFor (iRng1 (tCons (tC (.int 3)) tNil)) (gName 5) (tSeq (tAsg (tCall S_next_by [] E0 (tCons (tVar 0) (tCons (tVar 4) tNil))) (gName 6)) (tSeq (tDrop (tBM K "list" rAppend (tVar 3) (tCons (tVar 6) tNil))) (tAsg (tCall S_moved [] E0 (tCons (tVar 4) (tCons (tVar 6) tNil))) (gName 4))))) (tSeq (tAsg (tVar 3) (gLst K 3 (gCons (gName 7) (gCons (gName 8) (gCons (gName 9) gNil))))) (tRet (tTup (tCons (tC (.str "order")) (tCons (tCall S_trimmed [] E0 (tCons (tLst (tCons (tVar 7) (tCons (tOp (rI0 fun i j => .int (i - j)) (tVar 8) (tVar 7)) (tCons (tOp (rAddU K) (tOp (rI0 fun i j => .int (i - j)) (tVar 9) (tOp rMulU (tC (.int 2)) (tVar 8))) (tVar 7)) tNil)))) (tCons (tVar 2) tNil))) tNil))))))))
def r_last_of (K : PySem.W.Frag) (S_number_at : Sp) : TS :=
  (tSeq (tAsg (tCB (rLenU K) (tCons (tVar 0) tNil)) (gName 4)) (tSeq (tAsg (tLc (iRng2 (tCons (tCB (rMaxU K) (tCons (tC (.int 0)) (tCons (tOp (rI0 fun i j => .int (i - j)) (tVar 3) (tVar 4)) tNil))) (tCons (tVar 3) tNil))) (gName 6) tYes (tCall S_number_at [] E0 (tCons (tVar 1) (tCons (tVar 2) (tCons (tVar 6) tNil)))) [6]) (gName 5)) (tRet (tSl (rSlU K) (tLst (StX.tStar K (tVar 0) (StX.tStar K (tVar 5) tNil))) (tPart (tCB (rLenU K) (tCons (tVar 5) tNil))) tNoPart))))
def r_stretches_of (K : PySem.W.Frag) (S_begin_of : Sp) (S_many_by : Sp) (S_next_by : Sp) (S_difference_by : Sp) (S_moved : Sp) (S_run_by : Sp) (S_last_of : Sp) : TS :=
  (tSeq (tPar 2 3 (tCons (tLst tNil) (tCons (tCall S_begin_of [] E0 (tCons (tVar 0) tNil)) tNil))) (tSeq (tFor (iSeq K (tVar 1)) (gName 4) (tSeq (tAsg (tCall S_many_by [] E0 (tCons (tVar 4) tNil)) (gName 5)) (tIfS (tTest (tOp (rEqU K) (tVar 5) (tC (.int 1)))) (tSeq (tAsg (tOp (rAddU K) (tCall S_next_by [] E0 (tCons (tVar 0) (tCons (tVar 3) tNil))) (tCall S_difference_by [] E0 (tCons (tVar 4) tNil))) (gName 6)) (tSeq (tDrop (tBM K "list" rAppend (tVar 2) (tCons (tTup (tCons (tC (.int 1)) (tCons (tC (.str "order")) (tCons (tLst (tCons (tVar 6) tNil)) tNil)))) tNil))) (tAsg (tCall S_moved [] E0 (tCons (tVar 3) (tCons (tVar 6) tNil))) (gName 3)))) (tSeq (tAsg (tCall S_run_by [] E0 (tCons (tVar 0) (tCons (tVar 3) (tCons (tVar 5) tNil)))) (gTup K 2 (gCons (gName 7) (gCons (gName 8) gNil)))) (tSeq (tDrop (tBM K "list" rAppend (tVar 2) (tCons (tTup (tCons (tVar 5) (tCons (tVar 7) (tCons (tVar 8) tNil)))) tNil))) (tAsg (tCall S_last_of [] E0 (tCons (tVar 3) (tCons (tVar 7) (tCons (tVar 8) (tCons (tVar 5) tNil))))) (gName 3))))))) (tRet (tVar 2))))
def r_pieces_of (K : PySem.W.Frag) (S_need_way : Sp) (S_need_tokens : Sp) (S_many_by : Sp) (S_zipped : Sp) (S_stretches_of : Sp) : TS :=
  (tSeq (tDrop (tCall S_need_way [] E0 (tCons (tC (.str "moment_way")) (tCons (tC (.str "moments")) (tCons (tVar 0) tNil))))) (tSeq (tDrop (tCall S_need_way [] E0 (tCons (tC (.str "value_way")) (tCons (tC (.str "values")) (tCons (tVar 2) tNil))))) (tSeq (tDrop (tCall S_need_tokens [] E0 (tCons (tC (.str "moment_tokens")) (tCons (tVar 1) tNil)))) (tSeq (tDrop (tCall S_need_tokens [] E0 (tCons (tC (.str "value_tokens")) (tCons (tVar 3) tNil)))) (tSeq (tAsg (tCB (rSumU K) (tCons (tLc (iSeq K (tVar 1)) (gName 5) tYes (tCall S_many_by [] E0 (tCons (tVar 5) tNil)) [5]) tNil)) (gName 4)) (tSeq (tIfS (tOr (tTest (tOp (rEqU K) (tVar 4) (tC (.int 0)))) (tTest (tOp (rNeU K) (tVar 4) (tCB (rSumU K) (tCons (tLc (iSeq K (tVar 3)) (gName 5) tYes (tCall S_many_by [] E0 (tCons (tVar 5) tNil)) [5]) tNil))))) tNever tNext) (tRet (tCall S_zipped [] E0 (tCons (tCall S_stretches_of [] E0 (tCons (tVar 0) (tCons (tVar 1) tNil))) (tCons (tCall S_stretches_of [] E0 (tCons (tVar 2) (tCons (tVar 3) tNil))) tNil))))))))))
def r_is_piece (K : PySem.W.Frag) (C_Piece : Addr) (S_is_within : Sp) (S_is_listed : Sp) (S_is_integer : Sp) : TS :=
  (tSeq (tIfS (tOr (tNot (tB (tCB (rIsiU K) (tCons (tVar 0) (tCons (tC (.ref C_Piece)) tNil))))) (tOr (tNot (tB (tCall S_is_within [] E0 (tCons (tFld K (tVar 0) "count") (tCons (tC (.int 1)) (tCons (tC (.int 2199023255552)) tNil)))))) (tNot (tB (tCall S_is_listed [] E0 (tCons (tFld K (tVar 0) "numbers") tNil)))))) (tRet (tC (.bl false))) tNext) (tSeq (tIfS (tOr (tNot (tB (tCall S_is_integer [] E0 (tCons (tFld K (tVar 0) "moment") tNil)))) (tOr (tNot (tB (tCall S_is_integer [] E0 (tCons (tFld K (tVar 0) "step") tNil)))) (tAnd (tTest (tOp (rEqU K) (tFld K (tVar 0) "count") (tC (.int 1)))) (tTest (tOp (rNeU K) (tFld K (tVar 0) "step") (tC (.int 0))))))) (tRet (tC (.bl false))) tNext) (tSeq (tIfS (tOr (tNot (tB (tCB (rIsiU K) (tCons (tFld K (tVar 0) "kind") (tCons (tC (.ty "str")) tNil))))) (tTest (tOp (rInU K true) (tFld K (tVar 0) "kind") (tKT K k_KINDS)))) (tRet (tC (.bl false))) tNext) (tSeq (tIfS (tNot (tB (tCB (rAll K) (tCons (tLc (iSeq K (tFld K (tVar 0) "numbers")) (gName 1) tYes (tCall S_is_integer [] E0 (tCons (tVar 1) tNil)) [1]) tNil)))) (tRet (tC (.bl false))) tNext) (tSeq (tIfS (tNot (tTest (tChain (rI0 fun i j => .bl (decide (i ≤ j))) (rI0 fun i j => .bl (decide (i ≤ j))) (tC (.int 1)) (tCB (rLenU K) (tCons (tFld K (tVar 0) "numbers") tNil)) (tCB (rMinU K) (tCons (tFld K (tVar 0) "count") (tCons (tIf (tTest (tOp (rEqU K) (tFld K (tVar 0) "kind") (tC (.str "order")))) (tC (.int 3)) (tC (.int 8))) tNil)))))) (tRet (tC (.bl false))) tNext) (tRet (tOrV (tOp (rEqU K) (tFld K (tVar 0) "kind") (tC (.str "period"))) (tOrV (tOp (rEqU K) (tCB (rLenU K) (tCons (tFld K (tVar 0) "numbers") tNil)) (tC (.int 1))) (tOp (rNeU K) (tOp (rIx K) (tFld K (tVar 0) "numbers") (tUn (rU fun i => .int (-i)) (tC (.int 1)))) (tC (.int 0)))))))))))
def r_turn_of (K : PySem.W.Frag) (S_padded : Sp) : TS :=
  (tSeq (tAsg (tCall S_padded [] E0 (tCons (tVar 0) tNil)) (gLst K 3 (gCons (gName 2) (gCons (gName 3) (gCons (gName 4) gNil))))) (tSeq (tIfS (tOr (tTest (tOp (rEqU K) (tVar 4) (tC (.int 0)))) (tTest (tOp (rI0 fun i j => .bl (decide (i < j))) (tVar 1) (tC (.int 3))))) (tRet (tOp (rI0 fun i j => .int (i - j)) (tVar 1) (tC (.int 1)))) tNext) (tSeq (tAsg (tIf (tAnd (tTest (tOp (rNeU K) (tOp (rI0 fun i j => .bl (decide (j < i))) (tVar 3) (tC (.int 0))) (tOp (rI0 fun i j => .bl (decide (j < i))) (tVar 4) (tC (.int 0))))) (tTest (tOp (rNeU K) (tVar 3) (tC (.int 0))))) (tUn (rU fun i => .int (-i)) (tOp rDivU (tUn (rU fun i => .int (-i)) (tCB rAbsU (tCons (tVar 3) tNil))) (tCB rAbsU (tCons (tVar 4) tNil)))) (tC (.int 0))) (gName 5)) (tRet (tCB (rMinU K) (tCons (tCB (rMaxU K) (tCons (tVar 5) (tCons (tC (.int 0)) tNil))) (tCons (tOp (rI0 fun i j => .int (i - j)) (tVar 1) (tC (.int 1))) tNil)))))))
def r_first_such (K : PySem.W.Frag) (F_is_such : FV) (ws_is_such : List (Option V)) (S_is_such : List (Option V) → Sp) : TS :=
  (tSeq (tWhile (tTest (tOp (rI0 fun i j => .bl (decide (i < j))) (tVar 0) (tVar 1))) (tSeq (tAsg (tOp rDivU (tOp (rAddU K) (tVar 0) (tVar 1)) (tC (.int 2))) (gName 3)) (tIfS (tB (tCallP F_is_such 2 ws_is_such S_is_such (tCons (tVar 3) tNil))) (tAsg (tVar 3) (gName 1)) (tAsg (tOp (rAddU K) (tVar 3) (tC (.int 1))) (gName 0))))) (tRet (tVar 1)))
def r_first_beyond_is_out (K : PySem.W.Frag) (S_number_at : Sp) : TS :=
  (tRet (tNotV (tChain (rI0 fun i j => .bl (decide (i ≤ j))) (rI0 fun i j => .bl (decide (i ≤ j))) (tVar 3) (tCall S_number_at [] E0 (tCons (tVar 1) (tCons (tVar 2) (tCons (tVar 0) tNil)))) (tVar 4))))
def r_first_beyond (K : PySem.W.Frag) (mk_is_out : Addr → NdefX.NF) (S_is_out : List (Option V) → Sp) (G_first_such : Addr → List (Option V) → List V → Hp → VK → Prop) (S_turn_of : Sp) : TS :=
  (tSeq (tIfS (tTest (tOp (rEqU K) (tVar 0) (tC (.str "period")))) (tSeq (tAsg (tLc (iRng1 (tCons (tCB (rMinU K) (tCons (tCB (rLenU K) (tCons (tVar 1) tNil)) (tCons (tVar 2) tNil))) tNil)) (gName 8) (tNot (tTest (tChain (rI0 fun i j => .bl (decide (i ≤ j))) (rI0 fun i j => .bl (decide (i ≤ j))) (tVar 3) (tOp (rIx K) (tVar 1) (tVar 8)) (tVar 4)))) (tVar 8) [8]) (gName 5)) (tRet (tIf (tTest (tOp (rNeU K) (tVar 5) (tLst tNil))) (tOp (rIx K) (tVar 5) (tC (.int 0))) (tVar 2)))) tNext) (tSeq (NdefX.tNdefM (Tb.tabs.map fun a => (a, Tb.nm a)) 6 mk_is_out) (tSeq (tAsg (tCall S_turn_of [] E0 (tCons (tVar 1) (tCons (tVar 2) tNil))) (gName 7)) (tSeq (tIfS (tB (NdefX.tCallN mk_is_out 6 [0, 1, 3, 4] (fun _ _ => S_is_out) E0 (tCons (tC (.int 0)) tNil))) (tRet (tC (.int 0))) tNext) (tSeq (tIfS (tB (NdefX.tCallN mk_is_out 6 [0, 1, 3, 4] (fun _ _ => S_is_out) E0 (tCons (tVar 7) tNil))) (tRet (tCallG (fun c' => fvN (mk_is_out c')) [0, 1, 3, 4] 3 G_first_such (tCons (tC (.int 0)) (tCons (tVar 7) (tCons (tVar 6) tNil))))) tNext) (tRet (tIf (tB (NdefX.tCallN mk_is_out 6 [0, 1, 3, 4] (fun _ _ => S_is_out) E0 (tCons (tOp (rI0 fun i j => .int (i - j)) (tVar 2) (tC (.int 1))) tNil))) (tCallG (fun c' => fvN (mk_is_out c')) [0, 1, 3, 4] 3 G_first_such (tCons (tVar 7) (tCons (tVar 2) (tCons (tVar 6) tNil)))) (tVar 2))))))))
def r_first_bad_moment (K : PySem.W.Frag)  : TS :=
  (tSeq (tIfS (tNot (tTest (tChain (rI0 fun i j => .bl (decide (i ≤ j))) (rI0 fun i j => .bl (decide (i ≤ j))) (tC (.int 0)) (tFld K (tVar 0) "moment") (tC (.int 1099511627775))))) (tRet (tC (.int 0))) tNext) (tSeq (tIfS (tAnd (tTest (tOp (rI0 fun i j => .bl (decide (j < i))) (tFld K (tVar 0) "count") (tC (.int 1)))) (tTest (tOp (rI0 fun i j => .bl (decide (i < j))) (tFld K (tVar 0) "step") (tC (.int 1))))) (tRet (tC (.int 1))) tNext) (tSeq (tAsg (tIf (tTest (tOp (rI0 fun i j => .bl (decide (j < i))) (tFld K (tVar 0) "count") (tC (.int 1)))) (tOp (rAddU K) (tOp rDivU (tOp (rI0 fun i j => .int (i - j)) (tC (.int 1099511627775)) (tFld K (tVar 0) "moment")) (tFld K (tVar 0) "step")) (tC (.int 1))) (tC (.int 1))) (gName 1)) (tRet (tCB (rMinU K) (tCons (tFld K (tVar 0) "count") (tCons (tVar 1) tNil)))))))
def r_wrong_in (K : PySem.W.Frag) (S_first_beyond : Sp) (S_first_bad_moment : Sp) : TS :=
  (tSeq (tIfS (tAnd (tTest (tOp rIsNU (tVar 1) (tC .non))) (tTest (tOp (rI0 fun i j => .bl (decide (i ≤ j))) (tFld K (tVar 0) "moment") (tVar 1)))) (tRet (tC (.int 0))) tNext) (tSeq (tAsg (tCall S_first_beyond [] E0 (tCons (tFld K (tVar 0) "kind") (tCons (tFld K (tVar 0) "numbers") (tCons (tFld K (tVar 0) "count") (tCons (tOp (rI0 fun i j => .int (i - j)) (tC (.int 0)) (tC (.int 1099511627776))) (tCons (tC (.int 1099511627776)) tNil)))))) (gName 2)) (tRet (tCB (rMinU K) (tCons (tCall S_first_bad_moment [] E0 (tCons (tVar 0) tNil)) (tCons (tVar 2) tNil))))))
def r_moment_at (K : PySem.W.Frag)  : TS :=
  (tRet (tOp (rAddU K) (tFld K (tVar 0) "moment") (tOp rMulU (tFld K (tVar 0) "step") (tVar 1))))
def r_last_moment (K : PySem.W.Frag) (S_moment_at : Sp) : TS :=
  (tRet (tCall S_moment_at [] E0 (tCons (tVar 0) (tCons (tOp (rI0 fun i j => .int (i - j)) (tFld K (tVar 0) "count") (tC (.int 1))) tNil))))
def r_first_wrong (K : PySem.W.Frag) (S_wrong_in : Sp) (S_last_moment : Sp) : TS :=
  (tSeq (tAsg (tTup (tCons (tC (.int 0)) (tCons (tC .non) tNil))) (gTup K 2 (gCons (gName 1) (gCons (gName 2) gNil)))) (tSeq (tFor (iSeq K (tVar 0)) (gName 3) (tSeq (tAsg (tCall S_wrong_in [] E0 (tCons (tVar 3) (tCons (tVar 2) tNil))) (gName 4)) (tSeq (tIfS (tTest (tOp (rI0 fun i j => .bl (decide (i < j))) (tVar 4) (tFld K (tVar 3) "count"))) (tRet (tOp (rAddU K) (tVar 1) (tVar 4))) tNext) (tPar 1 2 (tCons (tOp (rAddU K) (tVar 1) (tFld K (tVar 3) "count")) (tCons (tCall S_last_moment [] E0 (tCons (tVar 3) tNil)) tNil)))))) (tRet (tC .non))))
def r_are_pieces (K : PySem.W.Frag) (S_is_listed : Sp) (S_is_piece : Sp) (S_first_wrong : Sp) : TS :=
  (tRet (tAndV (tCall S_is_listed [] E0 (tCons (tVar 0) tNil)) (tAndV (tCB (rAll K) (tCons (tLc (iSeq K (tVar 0)) (gName 1) tYes (tCall S_is_piece [] E0 (tCons (tVar 1) tNil)) [1]) tNil)) (tOp rIsU (tCall S_first_wrong [] E0 (tCons (tVar 0) tNil)) (tC .non)))))
def r_need_pieces (K : PySem.W.Frag) (S_are_pieces : Sp) : TS :=
  (tIfS (tNot (tB (tCall S_are_pieces [] E0 (tCons (tVar 1) tNil)))) tNever tNext)
def r_value_at (K : PySem.W.Frag) (S_number_at : Sp) : TS :=
  (tRet (tCall S_number_at [] E0 (tCons (tFld K (tVar 0) "kind") (tCons (tFld K (tVar 0) "numbers") (tCons (tVar 1) tNil)))))
def r_point_at (K : PySem.W.Frag) (S_need_pieces : Sp) (S_is_within : Sp) (S_moment_at : Sp) (S_value_at : Sp) : TS :=
  (tSeq (tDrop (tCall S_need_pieces [] E0 (tCons (tC (.str "pieces")) (tCons (tVar 0) tNil)))) (tSeq (tIfS (tNot (tB (tCall S_is_within [] E0 (tCons (tVar 1) (tCons (tC (.int 0)) (tCons (tOp (rI0 fun i j => .int (i - j)) (tCB (rSumU K) (tCons (tLc (iSeq K (tVar 0)) (gName 2) tYes (tFld K (tVar 2) "count") [2]) tNil)) (tC (.int 1))) tNil)))))) tNever tNext) (tSeq (tFor (iSeq K (tVar 0)) (gName 2) (tSeq (tIfS (tTest (tOp (rI0 fun i j => .bl (decide (i < j))) (tVar 1) (tFld K (tVar 2) "count"))) tBreak tNext) (tAug 1 (tFld K (tVar 2) "count") (ipI fun i j => i - j)))) (tRet (tTup (tCons (tCall S_moment_at [] E0 (tCons (tVar 2) (tCons (tVar 1) tNil))) (tCons (tCall S_value_at [] E0 (tCons (tVar 2) (tCons (tVar 1) tNil))) tNil)))))))
def r__law_piece_right (K : PySem.W.Frag) (S__law_way : Sp) (S__law_draw : Sp) (S_numbers_of : Sp) (S_pieces_of : Sp) (S_point_at : Sp) : TS :=
  (tSeq (tPar 1 2 (tCons (tCall S__law_way [] E0 (tCons (tVar 0) (tCons (tC (.str "values")) tNil))) (tCons (tOp (rAddU K) (tC (.int 1)) (tCall S__law_draw [] E0 (tCons (tVar 0) (tCons (tC (.int 12)) tNil)))) tNil))) (tSeq (tAsg (tLc (iRng1 (tCons (tOp (rAddU K) (tC (.int 1)) (tCall S__law_draw [] E0 (tCons (tVar 0) (tCons (tC (.int 4)) tNil)))) tNil)) (gName 7) tYes (tOp (rI0 fun i j => .int (i - j)) (tCall S__law_draw [] E0 (tCons (tVar 0) (tCons (tC (.int 21)) tNil))) (tC (.int 10))) [7]) (gName 3)) (tSeq (tPar 4 5 (tCons (tCall S_numbers_of [] E0 (tCons (tVar 1) (tCons (tOp (rAddU K) (tVar 3) (tLst (tCons (tTup (tCons (tC (.str "run")) (tCons (tVar 2) tNil))) tNil))) tNil))) (tCons (tCB (rLenU K) (tCons (tVar 3) tNil)) tNil))) (tSeq (tAsg (tCall S_pieces_of [] E0 (tCons (tTup (tCons (tC (.str "order")) (tCons (tC (.int 2)) tNil))) (tCons (tOp (rAddU K) (tLst (tCons (tC (.int 0)) (tCons (tC (.int 1)) tNil))) (tOp rMulU (tLst (tCons (tC (.int 0)) tNil)) (tOp (rI0 fun i j => .int (i - j)) (tCB (rLenU K) (tCons (tVar 4) tNil)) (tC (.int 2))))) (tCons (tVar 1) (tCons (tOp (rAddU K) (tVar 3) (tLst (tCons (tTup (tCons (tC (.str "run")) (tCons (tVar 2) tNil))) tNil))) tNil))))) (gName 6)) (tSeq (tIfS (tTest (tOp (rNeU K) (tCB (rSumU K) (tCons (tLc (iSeq K (tVar 6)) (gName 9) tYes (tFld K (tVar 9) "count") [9]) tNil)) (tCB (rLenU K) (tCons (tVar 4) tNil)))) (tRet (tC (.bl false))) tNext) (tSeq (tFor (iRng1 (tCons (tC (.int 6)) tNil)) (gName 7) (tSeq (tAsg (tCall S__law_draw [] E0 (tCons (tVar 0) (tCons (tCB (rLenU K) (tCons (tVar 4) tNil)) tNil))) (gName 8)) (tIfS (tTest (tOp (rNeU K) (tCall S_point_at [] E0 (tCons (tVar 6) (tCons (tVar 8) tNil))) (tTup (tCons (tVar 8) (tCons (tOp (rIx K) (tVar 4) (tVar 8)) tNil))))) (tRet (tC (.bl false))) tNext))) (tRet (tOp (rEqU K) (tCall S_point_at [] E0 (tCons (tVar 6) (tCons (tVar 5) tNil))) (tTup (tCons (tVar 5) (tCons (tOp (rIx K) (tVar 4) (tVar 5)) tNil)))))))))))
def r_law (K : PySem.W.Frag) (S__law_pen : Sp) (S__law_right : Sp) (S__law_piece_right : Sp) : TS :=
  (tSeq (tAsg (tCall S__law_pen [] E0 (tCons (tVar 0) tNil)) (gName 1)) (tSeq (tFor (iRng1 (tCons (tC (.int 6)) tNil)) (gName 2) (tIfS (tNot (tB (tCall S__law_right [] E0 (tCons (tVar 1) tNil)))) (tRet (tC (.bl false))) tNext)) (tRet (tCall S__law_piece_right [] E0 (tCons (tVar 1) tNil)))))
end K26
set_option Elab.async false
set_option maxRecDepth 100000
set_option maxHeartbeats 4000000
set_option linter.all false
set_option autoImplicit false
namespace K26
variable [DW.Tb]
open PySem PySem.Spec PyProof.Rows L2 DW
def top (i : Nat) : Stmt := PySem.Challenge.pw_askedcodes_k26_whole_runs_are_polynomial.main.body.getD i (.Pass ⟨0, 0, 0, 0⟩)
abbrev s__law_pen : Stmt := top 67
abbrev s__law_draw : Stmt := top 68
abbrev s__law_way : Stmt := top 72
abbrev s_is_listed : Stmt := top 11
abbrev s_is_integer : Stmt := top 9
abbrev s_is_within : Stmt := top 10
abbrev s_is_way : Stmt := top 18
abbrev s_need_way : Stmt := top 26
abbrev s_is_token : Stmt := top 19
abbrev s_need_tokens : Stmt := top 27
abbrev s_many_by : Stmt := top 24
abbrev s_how_many : Stmt := top 29
abbrev s_reach_of : Stmt := top 20
abbrev s_begin_of : Stmt := top 22
abbrev s_next_by : Stmt := top 21
abbrev s_difference_by : Stmt := top 25
abbrev s_moved : Stmt := top 23
abbrev s_numbers_of : Stmt := top 30
abbrev s__law_next : Stmt := top 70
abbrev s__law_numbers : Stmt := top 71
abbrev s__law_differences : Stmt := top 78
abbrev s_foretold : Stmt := top 28
abbrev s__law_right : Stmt := top 79
abbrev s_padded : Stmt := top 33
abbrev s_trimmed : Stmt := top 35
abbrev s_pairs_of : Stmt := top 32
abbrev s_number_at : Stmt := top 34
abbrev s_part_of : Stmt := top 36
abbrev s_cut_row : Stmt := top 53
abbrev s_moments_of : Stmt := top 54
abbrev s_fixed : Stmt := top 41
abbrev s_Paper_init : Stmt := inClass (top 42) 0
abbrev s_Piece_init : Stmt := inClass (top 48) 0
abbrev s_zipped : Stmt := top 55
abbrev s_run_by : Stmt := top 51
abbrev s_last_of : Stmt := top 52
abbrev s_stretches_of : Stmt := top 50
abbrev s_pieces_of : Stmt := top 64
abbrev s_is_piece : Stmt := top 49
abbrev s_turn_of : Stmt := top 37
abbrev s_first_such : Stmt := top 38
abbrev s_first_beyond : Stmt := top 39
abbrev s_first_bad_moment : Stmt := top 59
abbrev s_wrong_in : Stmt := top 60
abbrev s_moment_at : Stmt := top 56
abbrev s_last_moment : Stmt := top 58
abbrev s_first_wrong : Stmt := top 61
abbrev s_are_pieces : Stmt := top 62
abbrev s_need_pieces : Stmt := top 63
abbrev s_value_at : Stmt := top 57
abbrev s_point_at : Stmt := top 65
abbrev s__law_piece_right : Stmt := top 80
abbrev s_law : Stmt := top 81
abbrev s_first_beyond_is_out : Stmt := (defBody s_first_beyond).getD 1 (.Pass ⟨0, 0, 0, 0⟩)
/-! ### _law_pen -/
theorem sc__law_pen : FnScope ["script"] ["script"] (defScope s__law_pen) := ⟨rfl, rfl, rfl, by decide +kernel, rfl, by decide +kernel, by decide +kernel⟩
/-! ### _law_draw -/
theorem sc__law_draw : FnScope ["pen", "many", "digit", "at", "cell", "great", "mixed"] ["pen", "many"] (defScope s__law_draw) := ⟨rfl, rfl, rfl, by decide +kernel, rfl, by decide +kernel, by decide +kernel⟩
/-! ### _law_way -/
theorem sc__law_way : FnScope ["pen", "lane"] ["pen", "lane"] (defScope s__law_way) := ⟨rfl, rfl, rfl, by decide +kernel, rfl, by decide +kernel, by decide +kernel⟩
/-! ### is_listed -/
theorem sc_is_listed : FnScope ["value"] ["value"] (defScope s_is_listed) := ⟨rfl, rfl, rfl, by decide +kernel, rfl, by decide +kernel, by decide +kernel⟩
/-! ### is_integer -/
theorem sc_is_integer : FnScope ["value"] ["value"] (defScope s_is_integer) := ⟨rfl, rfl, rfl, by decide +kernel, rfl, by decide +kernel, by decide +kernel⟩
/-! ### is_within -/
theorem sc_is_within : FnScope ["value", "least", "most"] ["value", "least", "most"] (defScope s_is_within) := ⟨rfl, rfl, rfl, by decide +kernel, rfl, by decide +kernel, by decide +kernel⟩
/-! ### is_way -/
theorem sc_is_way : FnScope ["lane", "value"] ["lane", "value"] (defScope s_is_way) := ⟨rfl, rfl, rfl, by decide +kernel, rfl, by decide +kernel, by decide +kernel⟩
/-! ### need_way -/
theorem sc_need_way : FnScope ["part", "lane", "value"] ["part", "lane", "value"] (defScope s_need_way) := ⟨rfl, rfl, rfl, by decide +kernel, rfl, by decide +kernel, by decide +kernel⟩
/-! ### is_token -/
theorem sc_is_token : FnScope ["value"] ["value"] (defScope s_is_token) := ⟨rfl, rfl, rfl, by decide +kernel, rfl, by decide +kernel, by decide +kernel⟩
/-! ### need_tokens -/
theorem sc_need_tokens : FnScope ["part", "value", "token"] ["part", "value"] (defScope s_need_tokens) := ⟨rfl, rfl, rfl, by decide +kernel, rfl, by decide +kernel, by decide +kernel⟩
/-! ### many_by -/
theorem sc_many_by : FnScope ["token", "many", "_"] ["token"] (defScope s_many_by) := ⟨rfl, rfl, rfl, by decide +kernel, rfl, by decide +kernel, by decide +kernel⟩
/-! ### how_many -/
theorem sc_how_many : FnScope ["tokens", "token"] ["tokens"] (defScope s_how_many) := ⟨rfl, rfl, rfl, by decide +kernel, rfl, by decide +kernel, by decide +kernel⟩
/-! ### reach_of -/
theorem sc_reach_of : FnScope ["way"] ["way"] (defScope s_reach_of) := ⟨rfl, rfl, rfl, by decide +kernel, rfl, by decide +kernel, by decide +kernel⟩
/-! ### begin_of -/
theorem sc_begin_of : FnScope ["way"] ["way"] (defScope s_begin_of) := ⟨rfl, rfl, rfl, by decide +kernel, rfl, by decide +kernel, by decide +kernel⟩
/-! ### next_by -/
theorem sc_next_by : FnScope ["way", "last"] ["way", "last"] (defScope s_next_by) := ⟨rfl, rfl, rfl, by decide +kernel, rfl, by decide +kernel, by decide +kernel⟩
/-! ### difference_by -/
theorem sc_difference_by : FnScope ["token"] ["token"] (defScope s_difference_by) := ⟨rfl, rfl, rfl, by decide +kernel, rfl, by decide +kernel, by decide +kernel⟩
/-! ### moved -/
theorem sc_moved : FnScope ["last", "number"] ["last", "number"] (defScope s_moved) := ⟨rfl, rfl, rfl, by decide +kernel, rfl, by decide +kernel, by decide +kernel⟩
/-! ### numbers_of -/
theorem sc_numbers_of : FnScope ["way", "tokens", "found", "last", "token", "is_run", "_", "number"] ["way", "tokens"] (defScope s_numbers_of) := ⟨rfl, rfl, rfl, by decide +kernel, rfl, by decide +kernel, by decide +kernel⟩
/-! ### _law_next -/
theorem sc__law_next : FnScope ["way", "numbers", "some", "last", "other", "third"] ["way", "numbers"] (defScope s__law_next) := ⟨rfl, rfl, rfl, by decide +kernel, rfl, by decide +kernel, by decide +kernel⟩
/-! ### _law_numbers -/
theorem sc__law_numbers : FnScope ["way", "tokens", "found", "token", "word", "turn", "more"] ["way", "tokens"] (defScope s__law_numbers) := ⟨rfl, rfl, rfl, by decide +kernel, rfl, by decide +kernel, by decide +kernel⟩
/-! ### _law_differences -/
theorem sc__law_differences : FnScope ["numbers", "times", "found", "turn", "one", "other"] ["numbers", "times"] (defScope s__law_differences) := ⟨rfl, rfl, rfl, by decide +kernel, rfl, by decide +kernel, by decide +kernel⟩
/-! ### foretold -/
theorem sc_foretold : FnScope ["way", "numbers", "reach", "number"] ["way", "numbers"] (defScope s_foretold) := ⟨rfl, rfl, rfl, by decide +kernel, rfl, by decide +kernel, by decide +kernel⟩
/-! ### _law_right -/
theorem sc__law_right : FnScope ["pen", "way", "j", "ahead", "numbers", "many", "some", "turn", "number", "at", "one"] ["pen"] (defScope s__law_right) := ⟨rfl, rfl, rfl, by decide +kernel, rfl, by decide +kernel, by decide +kernel⟩
/-! ### padded -/
theorem sc_padded : FnScope ["numbers"] ["numbers"] (defScope s_padded) := ⟨rfl, rfl, rfl, by decide +kernel, rfl, by decide +kernel, by decide +kernel⟩
/-! ### trimmed -/
theorem sc_trimmed : FnScope ["numbers", "count", "found"] ["numbers", "count"] (defScope s_trimmed) := ⟨rfl, rfl, rfl, by decide +kernel, rfl, by decide +kernel, by decide +kernel⟩
/-! ### pairs_of -/
theorem sc_pairs_of : FnScope ["many"] ["many"] (defScope s_pairs_of) := ⟨rfl, rfl, rfl, by decide +kernel, rfl, by decide +kernel, by decide +kernel⟩
/-! ### number_at -/
theorem sc_number_at : FnScope ["kind", "numbers", "index", "first", "more", "bend"] ["kind", "numbers", "index"] (defScope s_number_at) := ⟨rfl, rfl, rfl, by decide +kernel, rfl, by decide +kernel, by decide +kernel⟩
/-! ### part_of -/
theorem sc_part_of : FnScope ["kind", "numbers", "begin", "count", "first", "more", "bend", "at"] ["kind", "numbers", "begin", "count"] (defScope s_part_of) := ⟨rfl, rfl, rfl, by decide +kernel, rfl, by decide +kernel, by decide +kernel⟩
/-! ### cut_row -/
theorem sc_cut_row : FnScope ["row", "begin", "count"] ["row", "begin", "count"] (defScope s_cut_row) := ⟨rfl, rfl, rfl, by decide +kernel, rfl, by decide +kernel, by decide +kernel⟩
/-! ### moments_of -/
theorem sc_moments_of : FnScope ["kind", "numbers", "count", "first", "more", "_"] ["kind", "numbers", "count"] (defScope s_moments_of) := ⟨rfl, rfl, rfl, by decide +kernel, rfl, by decide +kernel, by decide +kernel⟩
/-! ### fixed -/
theorem sc_fixed : FnScope ["value", "part"] ["value"] (defScope s_fixed) := ⟨rfl, rfl, rfl, by decide +kernel, rfl, by decide +kernel, by decide +kernel⟩
/-! ### Paper_init -/
theorem sc_Paper_init : FnScope ["self", "word", "parts"] ["self", "word", "parts"] (defScope s_Paper_init) := ⟨rfl, rfl, rfl, by decide +kernel, rfl, by decide +kernel, by decide +kernel⟩
/-! ### Piece_init -/
theorem sc_Piece_init : NdefX.NScope ["self", "moment", "step", "count", "kind", "numbers", "__class__"] ["self", "moment", "step", "count", "kind", "numbers"] ["__class__"] (defScope s_Piece_init) := NdefX.nscope_by (by decide +kernel)
/-! ### zipped -/
theorem sc_zipped : FnScope ["moments", "values", "found", "at", "spot", "one", "other", "count", "kind", "numbers", "first", "step"] ["moments", "values"] (defScope s_zipped) := ⟨rfl, rfl, rfl, by decide +kernel, rfl, by decide +kernel, by decide +kernel⟩
/-! ### run_by -/
theorem sc_run_by : FnScope ["way", "last", "many", "some", "ahead", "_", "number", "first", "second", "third"] ["way", "last", "many"] (defScope s_run_by) := ⟨rfl, rfl, rfl, by decide +kernel, rfl, by decide +kernel, by decide +kernel⟩
/-! ### last_of -/
theorem sc_last_of : FnScope ["last", "kind", "numbers", "many", "reach", "own", "at"] ["last", "kind", "numbers", "many"] (defScope s_last_of) := ⟨rfl, rfl, rfl, by decide +kernel, rfl, by decide +kernel, by decide +kernel⟩
/-! ### stretches_of -/
theorem sc_stretches_of : FnScope ["way", "tokens", "found", "last", "token", "many", "number", "kind", "numbers"] ["way", "tokens"] (defScope s_stretches_of) := ⟨rfl, rfl, rfl, by decide +kernel, rfl, by decide +kernel, by decide +kernel⟩
/-! ### pieces_of -/
theorem sc_pieces_of : FnScope ["moment_way", "moment_tokens", "value_way", "value_tokens", "many", "token"] ["moment_way", "moment_tokens", "value_way", "value_tokens"] (defScope s_pieces_of) := ⟨rfl, rfl, rfl, by decide +kernel, rfl, by decide +kernel, by decide +kernel⟩
/-! ### is_piece -/
theorem sc_is_piece : FnScope ["value", "one"] ["value"] (defScope s_is_piece) := ⟨rfl, rfl, rfl, by decide +kernel, rfl, by decide +kernel, by decide +kernel⟩
/-! ### turn_of -/
theorem sc_turn_of : FnScope ["numbers", "count", "first", "more", "bend", "spot"] ["numbers", "count"] (defScope s_turn_of) := ⟨rfl, rfl, rfl, by decide +kernel, rfl, by decide +kernel, by decide +kernel⟩
/-! ### first_such -/
theorem sc_first_such : FnScope ["begin", "behind", "is_such", "middle"] ["begin", "behind", "is_such"] (defScope s_first_such) := ⟨rfl, rfl, rfl, by decide +kernel, rfl, by decide +kernel, by decide +kernel⟩
/-! ### first_beyond_is_out -/
/-! ### first_beyond -/
theorem sc_first_beyond : FnScope ["kind", "numbers", "count", "low", "high", "found", "is_out", "turn", "at"] ["kind", "numbers", "count", "low", "high"] (defScope s_first_beyond) := ⟨rfl, rfl, rfl, by decide +kernel, rfl, by decide +kernel, by decide +kernel⟩
/-! ### first_bad_moment -/
theorem sc_first_bad_moment : FnScope ["piece", "room"] ["piece"] (defScope s_first_bad_moment) := ⟨rfl, rfl, rfl, by decide +kernel, rfl, by decide +kernel, by decide +kernel⟩
/-! ### wrong_in -/
theorem sc_wrong_in : FnScope ["piece", "ahead", "beyond"] ["piece", "ahead"] (defScope s_wrong_in) := ⟨rfl, rfl, rfl, by decide +kernel, rfl, by decide +kernel, by decide +kernel⟩
/-! ### moment_at -/
theorem sc_moment_at : FnScope ["piece", "index"] ["piece", "index"] (defScope s_moment_at) := ⟨rfl, rfl, rfl, by decide +kernel, rfl, by decide +kernel, by decide +kernel⟩
/-! ### last_moment -/
theorem sc_last_moment : FnScope ["piece"] ["piece"] (defScope s_last_moment) := ⟨rfl, rfl, rfl, by decide +kernel, rfl, by decide +kernel, by decide +kernel⟩
/-! ### first_wrong -/
theorem sc_first_wrong : FnScope ["pieces", "seen", "ahead", "piece", "spot"] ["pieces"] (defScope s_first_wrong) := ⟨rfl, rfl, rfl, by decide +kernel, rfl, by decide +kernel, by decide +kernel⟩
/-! ### are_pieces -/
theorem sc_are_pieces : FnScope ["value", "piece"] ["value"] (defScope s_are_pieces) := ⟨rfl, rfl, rfl, by decide +kernel, rfl, by decide +kernel, by decide +kernel⟩
/-! ### need_pieces -/
theorem sc_need_pieces : FnScope ["part", "value"] ["part", "value"] (defScope s_need_pieces) := ⟨rfl, rfl, rfl, by decide +kernel, rfl, by decide +kernel, by decide +kernel⟩
/-! ### value_at -/
theorem sc_value_at : FnScope ["piece", "index"] ["piece", "index"] (defScope s_value_at) := ⟨rfl, rfl, rfl, by decide +kernel, rfl, by decide +kernel, by decide +kernel⟩
/-! ### point_at -/
theorem sc_point_at : FnScope ["pieces", "index", "piece"] ["pieces", "index"] (defScope s_point_at) := ⟨rfl, rfl, rfl, by decide +kernel, rfl, by decide +kernel, by decide +kernel⟩
/-! ### _law_piece_right -/
theorem sc__law_piece_right : FnScope ["pen", "way", "j", "ahead", "numbers", "many", "pieces", "turn", "at", "piece"] ["pen"] (defScope s__law_piece_right) := ⟨rfl, rfl, rfl, by decide +kernel, rfl, by decide +kernel, by decide +kernel⟩
/-! ### law -/
theorem sc_law : FnScope ["script", "pen", "turn"] ["script"] (defScope s_law) := ⟨rfl, rfl, rfl, by decide +kernel, rfl, by decide +kernel, by decide +kernel⟩
structure Txt (K : PySem.W.Frag) (mg : Str → Option Value) (C_Piece : Addr) : Prop where
  b_abs : mg "abs" = none
  b_all : mg "all" = none
  b_bool : mg "bool" = none
  b_int : mg "int" = none
  b_isinstance : mg "isinstance" = none
  b_len : mg "len" = none
  b_list : mg "list" = none
  b_max : mg "max" = none
  b_min : mg "min" = none
  b_range : mg "range" = none
  b_str : mg "str" = none
  b_sum : mg "sum" = none
  b_tuple : mg "tuple" = none
  b_zip : mg "zip" = none
  k_KINDS : KTup K mg "KINDS" k_KINDS
  k_LANES : KTup K mg "LANES" k_LANES
  k_MOST_COUNT : ∃ t, mg "MOST_COUNT" = some (.int 2199023255552 t)
  k_MOST_MOMENT : ∃ t, mg "MOST_MOMENT" = some (.int 1099511627775 t)
  k_MOST_NUMBERS : ∃ t, mg "MOST_NUMBERS" = some (.int 100000 t)
  k_MOST_ORDER : ∃ t, mg "MOST_ORDER" = some (.int 3 t)
  k_MOST_PERIOD : ∃ t, mg "MOST_PERIOD" = some (.int 8 t)
  k_MOST_RUN : ∃ t, mg "MOST_RUN" = some (.int 36 t)
  k_MOST_VALUE : ∃ t, mg "MOST_VALUE" = some (.int 1099511627776 t)
  c_Piece : mg "Piece" = some (.ref C_Piece)
section
variable {P : Program} {w : World} {K : PySem.W.Frag} {mg : Str → Option Value} {base : Heap} {C_Piece : Addr}
variable (T : Txt K mg C_Piece)
include T
theorem der__law_pen  {f : Addr} {cdv : Value} {A : Around} {outer : List Env} {s : Shared} {H : Hp} {E : XK}  (hr : Room 0 (A.deeper (envOfC "_law_pen" (defScope s__law_pen) s.heap.objs.size f cdv))) :
    PSs (cxOf CX0 P w K mg base ["script"] "_law_pen" (defScope s__law_pen) f cdv A outer s H E).nox (defBody s__law_pen) (r__law_pen K ) := by
  exact (pss_one (ps_ret (pe_lst (pa_cons (pe_callTy (call_listU rfl) (by rfl) T.b_list (by rfl) (pa_cons (pe_slice sl_U (pv 0) po_none (po_some pe_int)) pa_nil)) (pa_cons pe_int (pa_cons pe_int pa_nil))))))
theorem der__law_draw  {f : Addr} {cdv : Value} {A : Around} {outer : List Env} {s : Shared} {H : Hp} {E : XK}  (hr : Room 0 (A.deeper (envOfC "_law_draw" (defScope s__law_draw) s.heap.objs.size f cdv))) :
    PSs (cxOf CX0 P w K mg base ["pen", "many", "digit", "at", "cell", "great", "mixed"] "_law_draw" (defScope s__law_draw) f cdv A outer s H E).nox (defBody s__law_draw) (r__law_draw K ) := by
  have hu : (A.deeper (envOfC "_law_draw" (defScope s__law_draw) s.heap.objs.size f cdv)).units + 64 < cLine := by have := hr.un; omega
  have hu5 : (A.deeper (envOfC "_law_draw" (defScope s__law_draw) s.heap.objs.size f cdv)).units + 65 < cLine := by have := hr.un; omega
  exact (pss_cons (ps_if (pt_cmpR op_gt (pe_ix ix_seq (pv 0) pe_int (fun _ _ => rfl)) pe_int (nomark _)) (pss_cons (ps_set (i := 2) sc__law_draw.nd rfl (by first | exact Or.inl rfl | exact Or.inr rfl) (pe_op op_modU (pe_callTy call_intU (by rfl) T.b_int (by rfl) (pa_cons (pe_ix ix_seq (pv 0) pe_int (fun _ _ => rfl)) pa_nil)) (pv 1))) (pss_cons (ps_asg (pe_op op_divU (pe_callTy call_intU (by rfl) T.b_int (by rfl) (pa_cons (pe_ix ix_seq (pv 0) pe_int (fun _ _ => rfl)) pa_nil)) (pv 1)) (pg_sub (pv 0) pe_int set_list)) (pss_one (ps_ret (pv 2))))) pss_nil) (pss_cons (ps_set (i := 3) sc__law_draw.nd rfl (by first | exact Or.inl rfl | exact Or.inr rfl) (pe_ix ix_seq (pv 0) pe_int (fun _ _ => rfl))) (pss_cons (ps_asg (pe_op op_addU (pv 3) pe_int) (pg_sub (pv 0) pe_int set_list)) (pss_cons (ps_set (i := 4) sc__law_draw.nd rfl (by first | exact Or.inl rfl | exact Or.inr rfl) (pe_op op_addU (pe_op op_mulU pe_int (pv 3)) pe_int)) (pss_cons (ps_if (pt_cmpR (op_neU hu) (pe_ix ix_seq (pv 0) pe_int (fun _ _ => rfl)) (pe_lst pa_nil) (nomark _)) (pss_one (ps_set (i := 4) sc__law_draw.nd rfl (by first | exact Or.inl rfl | exact Or.inr rfl) (pe_ix ix_seq (pe_ix ix_seq (pv 0) pe_int (fun _ _ => rfl)) (pe_op op_modU (pe_callTy call_intU (by rfl) T.b_int (by rfl) (pa_cons (pv 3) pa_nil)) (pe_callB call_lenU (by rfl) T.b_len (by rfl) (pa_cons (pe_ix ix_seq (pv 0) pe_int (fun _ _ => rfl)) pa_nil))) (fun _ _ => rfl)))) pss_nil) (pss_cons (ps_if (PW.pt (pw_and (pt_cmpR op_lt (pv 3) (pe_callB call_lenU (by rfl) T.b_len (by rfl) (pa_cons (pe_ix ix_seq (pv 0) pe_int (fun _ _ => rfl)) pa_nil)) (nomark _)) (pw_and1 (pt_cmpR op_ge (pe_callB call_absU (by rfl) T.b_abs (by rfl) (pa_cons (pv 4) pa_nil)) (pe_op op_pow pe_int pe_int) (nomark _))))) (pss_cons (ps_set (i := 5) sc__law_draw.nd rfl (by first | exact Or.inl rfl | exact Or.inr rfl) (pe_op op_addU (pe_op op_mulU pe_int (pe_op op_sub (pe_callB call_absU (by rfl) T.b_abs (by rfl) (pa_cons (pv 4) pa_nil)) (pe_op op_pow pe_int pe_int))) (pe_callTy call_intU (by rfl) T.b_int (by rfl) (pa_cons (pe_cmpR op_lt (pv 4) pe_int (nomark _)) pa_nil)))) (pss_cons (ps_asg (pe_op op_divU (pe_callTy call_intU (by rfl) T.b_int (by rfl) (pa_cons (pv 5) pa_nil)) (pv 1)) (pg_sub (pv 0) pe_int set_list)) (pss_one (ps_ret (pe_op op_modU (pe_callTy call_intU (by rfl) T.b_int (by rfl) (pa_cons (pv 5) pa_nil)) (pv 1)))))) pss_nil) (pss_cons (ps_set (i := 6) sc__law_draw.nd rfl (by first | exact Or.inl rfl | exact Or.inr rfl) (pe_op op_modU (pe_callTy call_intU (by rfl) T.b_int (by rfl) (pa_cons (pe_op op_pow (pe_op op_addU (pe_op op_addU (pe_op op_modU (pe_callTy call_intU (by rfl) T.b_int (by rfl) (pa_cons (pv 4) pa_nil)) pe_int) (pe_op op_mulU pe_int (pv 3))) pe_int) pe_int) pa_nil)) pe_int)) (pss_cons (ps_set (i := 6) sc__law_draw.nd rfl (by first | exact Or.inl rfl | exact Or.inr rfl) (pe_op op_modU (pe_callTy call_intU (by rfl) T.b_int (by rfl) (pa_cons (pe_op op_pow (pe_op op_addU (pe_op op_addU (pe_op op_mulU (pv 6) (pe_op op_addU (pe_op op_mulU pe_int (pv 3)) pe_int)) (pe_op op_mulU (pe_op op_mulU pe_int (pv 3)) (pv 3))) pe_int) pe_int) pa_nil)) pe_int)) (pss_one (ps_ret (pe_op op_modU (pe_callTy call_intU (by rfl) T.b_int (by rfl) (pa_cons (pe_op op_divU (pv 6) pe_int) pa_nil)) (pv 1))))))))))))
theorem der__law_way {S__law_draw : Sp} {f : Addr} {cdv : Value} {A : Around} {outer : List Env} {s : Shared} {H : Hp} {E : XK} (G__law_draw : Go P w K mg base 1 "_law_draw" S__law_draw []) (hr : Room 1 (A.deeper (envOfC "_law_way" (defScope s__law_way) s.heap.objs.size f cdv))) :
    PSs (cxOf CX0 P w K mg base ["pen", "lane"] "_law_way" (defScope s__law_way) f cdv A outer s H E).nox (defBody s__law_way) (r__law_way K S__law_draw) := by
  have hu : (A.deeper (envOfC "_law_way" (defScope s__law_way) s.heap.objs.size f cdv)).units + 64 < cLine := by have := hr.un; omega
  have hu5 : (A.deeper (envOfC "_law_way" (defScope s__law_way) s.heap.objs.size f cdv)).units + 65 < cLine := by have := hr.un; omega
  exact (pss_cons (ps_if (pt_cmpR (op_eqU hu) (pv 1) pe_str (nomark _)) (pss_one (ps_ret (pe_tup (pa_cons pe_str (pa_cons (pe_go G__law_draw hr (pa_cons (pv 0) (pa_cons pe_int pa_nil))) pa_nil))))) pss_nil) (pss_one (ps_ret (pe_ifExp (pt_cmpR op_gt (pe_go G__law_draw hr (pa_cons (pv 0) (pa_cons pe_int pa_nil))) pe_int (nomark _)) (pe_tup (pa_cons pe_str (pa_cons (pe_go G__law_draw hr (pa_cons (pv 0) (pa_cons pe_int pa_nil))) pa_nil))) (pe_tup (pa_cons pe_str (pa_cons (pe_op op_addU pe_int (pe_go G__law_draw hr (pa_cons (pv 0) (pa_cons pe_int pa_nil)))) pa_nil)))))))
theorem der_is_listed  {f : Addr} {cdv : Value} {A : Around} {outer : List Env} {s : Shared} {H : Hp} {E : XK}  (hr : Room 0 (A.deeper (envOfC "is_listed" (defScope s_is_listed) s.heap.objs.size f cdv))) :
    PSs (cxOf CX0 P w K mg base ["value"] "is_listed" (defScope s_is_listed) f cdv A outer s H E).nox (defBody s_is_listed) (r_is_listed K ) := by
  exact (pss_one (ps_ret (pe_callB call_isiT (by rfl) T.b_isinstance (by rfl) (pa_cons (pv 0) (pa_cons (pe_tup (pa_cons (pe_bltn (by rfl) T.b_list (by rfl) rfl) (pa_cons (pe_bltn (by rfl) T.b_tuple (by rfl) rfl) pa_nil))) pa_nil)))))
theorem der_is_integer  {f : Addr} {cdv : Value} {A : Around} {outer : List Env} {s : Shared} {H : Hp} {E : XK}  (hr : Room 0 (A.deeper (envOfC "is_integer" (defScope s_is_integer) s.heap.objs.size f cdv))) :
    PSs (cxOf CX0 P w K mg base ["value"] "is_integer" (defScope s_is_integer) f cdv A outer s H E).nox (defBody s_is_integer) (r_is_integer K ) := by
  exact (pss_one (ps_ret (pe_and (pe_callB call_isiU (by rfl) T.b_isinstance (by rfl) (pa_cons (pv 0) (pa_cons (pe_bltn (by rfl) T.b_int (by rfl) rfl) pa_nil))) (pe_one (pe_not (pe_callB call_isiU (by rfl) T.b_isinstance (by rfl) (pa_cons (pv 0) (pa_cons (pe_bltn (by rfl) T.b_bool (by rfl) rfl) pa_nil))))))))
theorem der_is_within {S_is_integer : Sp} {f : Addr} {cdv : Value} {A : Around} {outer : List Env} {s : Shared} {H : Hp} {E : XK} (G_is_integer : Go P w K mg base 1 "is_integer" S_is_integer []) (hr : Room 1 (A.deeper (envOfC "is_within" (defScope s_is_within) s.heap.objs.size f cdv))) :
    PSs (cxOf CX0 P w K mg base ["value", "least", "most"] "is_within" (defScope s_is_within) f cdv A outer s H E).nox (defBody s_is_within) (r_is_within K S_is_integer) := by
  exact (pss_one (ps_ret (pe_and (pe_go G_is_integer hr (pa_cons (pv 0) pa_nil)) (pe_and (pe_or (pe_cmpR op_isU (pv 1) pe_non (nomark _)) (pe_one (pe_cmpR op_ge (pv 0) (pv 1) (nomark _)))) (pe_one (pe_or (pe_cmpR op_isU (pv 2) pe_non (nomark _)) (pe_one (pe_cmpR op_le (pv 0) (pv 2) (nomark _)))))))))
theorem der_is_way {S_is_listed : Sp} {S_is_within : Sp} {f : Addr} {cdv : Value} {A : Around} {outer : List Env} {s : Shared} {H : Hp} {E : XK} (G_is_listed : Go P w K mg base 1 "is_listed" S_is_listed []) (G_is_within : Go P w K mg base 2 "is_within" S_is_within []) (hr : Room 2 (A.deeper (envOfC "is_way" (defScope s_is_way) s.heap.objs.size f cdv))) :
    PSs (cxOf CX0 P w K mg base ["lane", "value"] "is_way" (defScope s_is_way) f cdv A outer s H E).nox (defBody s_is_way) (r_is_way K S_is_listed S_is_within) := by
  have hu : (A.deeper (envOfC "is_way" (defScope s_is_way) s.heap.objs.size f cdv)).units + 64 < cLine := by have := hr.un; omega
  have hu5 : (A.deeper (envOfC "is_way" (defScope s_is_way) s.heap.objs.size f cdv)).units + 65 < cLine := by have := hr.un; omega
  exact (pss_cons (ps_if (PW.pt (pw_or (pt_not (pt_val (pe_go G_is_listed hr (pa_cons (pv 1) pa_nil)))) (pw_or (pt_cmpR (op_neU hu) (pe_callB call_lenU (by rfl) T.b_len (by rfl) (pa_cons (pv 1) pa_nil)) pe_int (nomark _)) (pw_or (pt_not (pt_val (pe_callB call_isiU (by rfl) T.b_isinstance (by rfl) (pa_cons (pe_ix ix_seq (pv 1) pe_int (fun _ _ => rfl)) (pa_cons (pe_bltn (by rfl) T.b_str (by rfl) rfl) pa_nil))))) (pw_or1 (pt_cmpR (op_notInU hu5) (pv 0) (pe_globT (by rfl) T.k_LANES) (by with_unfolding_all rfl))))))) (pss_one (ps_ret pe_bl)) pss_nil) (pss_cons (ps_if (pt_cmpR (op_eqU hu) (pe_ix ix_seq (pv 1) pe_int (fun _ _ => rfl)) pe_str (nomark _)) (pss_one (ps_ret (pe_go G_is_within hr (pa_cons (pe_ix ix_seq (pv 1) pe_int (fun _ _ => rfl)) (pa_cons pe_int (pa_cons (pe_ifExp (pt_cmpR (op_eqU hu) (pv 0) pe_str (nomark _)) (pe_globI (by rfl) T.k_MOST_ORDER) (pe_op op_sub (pe_globI (by rfl) T.k_MOST_ORDER) pe_int)) pa_nil)))))) pss_nil) (pss_one (ps_ret (pe_and (pe_cmpR (op_eqU hu) (pe_ix ix_seq (pv 1) pe_int (fun _ _ => rfl)) pe_str (nomark _)) (pe_and (pe_cmpR (op_eqU hu) (pv 0) pe_str (nomark _)) (pe_one (pe_go G_is_within hr (pa_cons (pe_ix ix_seq (pv 1) pe_int (fun _ _ => rfl)) (pa_cons pe_int (pa_cons (pe_globI (by rfl) T.k_MOST_PERIOD) pa_nil)))))))))))
theorem der_need_way {S_is_way : Sp} {f : Addr} {cdv : Value} {A : Around} {outer : List Env} {s : Shared} {H : Hp} {E : XK} (G_is_way : Go P w K mg base 3 "is_way" S_is_way []) (hr : Room 3 (A.deeper (envOfC "need_way" (defScope s_need_way) s.heap.objs.size f cdv))) :
    PSs (cxOf CX0 P w K mg base ["part", "lane", "value"] "need_way" (defScope s_need_way) f cdv A outer s H E).nox (defBody s_need_way) (r_need_way K S_is_way) := by
  exact (pss_one (ps_if (pt_not (pt_val (pe_go G_is_way hr (pa_cons (pv 1) (pa_cons (pv 2) pa_nil))))) pss_never pss_nil))
theorem der_is_token {S_is_integer : Sp} {S_is_listed : Sp} {S_is_within : Sp} {f : Addr} {cdv : Value} {A : Around} {outer : List Env} {s : Shared} {H : Hp} {E : XK} (G_is_integer : Go P w K mg base 1 "is_integer" S_is_integer []) (G_is_listed : Go P w K mg base 1 "is_listed" S_is_listed []) (G_is_within : Go P w K mg base 2 "is_within" S_is_within []) (hr : Room 2 (A.deeper (envOfC "is_token" (defScope s_is_token) s.heap.objs.size f cdv))) :
    PSs (cxOf CX0 P w K mg base ["value"] "is_token" (defScope s_is_token) f cdv A outer s H E).nox (defBody s_is_token) (r_is_token K S_is_integer S_is_listed S_is_within) := by
  have hu : (A.deeper (envOfC "is_token" (defScope s_is_token) s.heap.objs.size f cdv)).units + 64 < cLine := by have := hr.un; omega
  have hu5 : (A.deeper (envOfC "is_token" (defScope s_is_token) s.heap.objs.size f cdv)).units + 65 < cLine := by have := hr.un; omega
  exact (pss_cons (ps_if (pt_val (pe_go G_is_integer hr (pa_cons (pv 0) pa_nil))) (pss_one (ps_ret pe_bl)) pss_nil) (pss_cons (ps_if (PW.pt (pw_or (pt_not (pt_val (pe_go G_is_listed hr (pa_cons (pv 0) pa_nil)))) (pw_or (pt_cmpR (op_neU hu) (pe_callB call_lenU (by rfl) T.b_len (by rfl) (pa_cons (pv 0) pa_nil)) pe_int (nomark _)) (pw_or1 (pt_not (pt_val (pe_callB call_isiU (by rfl) T.b_isinstance (by rfl) (pa_cons (pe_ix ix_seq (pv 0) pe_int (fun _ _ => rfl)) (pa_cons (pe_bltn (by rfl) T.b_str (by rfl) rfl) pa_nil))))))))) (pss_one (ps_ret pe_bl)) pss_nil) (pss_cons (ps_if (pt_cmpR (op_eqU hu) (pe_ix ix_seq (pv 0) pe_int (fun _ _ => rfl)) pe_str (nomark _)) (pss_one (ps_ret (pe_go G_is_within hr (pa_cons (pe_ix ix_seq (pv 0) pe_int (fun _ _ => rfl)) (pa_cons pe_int (pa_cons (pe_globI (by rfl) T.k_MOST_RUN) pa_nil)))))) pss_nil) (pss_one (ps_ret (pe_and (pe_cmpR (op_eqU hu) (pe_ix ix_seq (pv 0) pe_int (fun _ _ => rfl)) pe_str (nomark _)) (pe_one (pe_go G_is_integer hr (pa_cons (pe_ix ix_seq (pv 0) pe_int (fun _ _ => rfl)) pa_nil)))))))))
theorem der_need_tokens {S_is_listed : Sp} {S_is_token : Sp} {f : Addr} {cdv : Value} {A : Around} {outer : List Env} {s : Shared} {H : Hp} {E : XK} (G_is_listed : Go P w K mg base 1 "is_listed" S_is_listed []) (G_is_token : Go P w K mg base 3 "is_token" S_is_token []) (hr : Room 3 (A.deeper (envOfC "need_tokens" (defScope s_need_tokens) s.heap.objs.size f cdv))) :
    PSs (cxOf CX0 P w K mg base ["part", "value", "token"] "need_tokens" (defScope s_need_tokens) f cdv A outer s H E).nox (defBody s_need_tokens) (r_need_tokens K S_is_listed S_is_token) := by
  exact (pss_one (ps_if (PW.pt (pw_or (pt_not (pt_val (pe_go G_is_listed hr (pa_cons (pv 1) pa_nil)))) (pw_or1 (pt_not (pt_val (pe_callB (cr_all rfl) (by rfl) T.b_all (by rfl) (pa_cons (pe_lc (own := [("token", 2)]) (by rfl) sc_need_tokens.nd (pi_seq (pv 1)) (blkOk_by (N := ["part", "value", "token"]) (sc := defScope s_need_tokens) (by decide +kernel)) (fun _ _ _ _ _ => (pg_name (i := 2) sc_need_tokens.nd rfl (by first | exact Or.inl rfl | exact Or.inr rfl))) (fun _ _ _ _ _ => pts_nil) (fun _ _ _ _ _ => (pe_go G_is_token hr (pa_cons (pv 2) pa_nil)))) pa_nil))))))) pss_never pss_nil))
theorem der_many_by {S_is_listed : Sp} {f : Addr} {cdv : Value} {A : Around} {outer : List Env} {s : Shared} {H : Hp} {E : XK} (G_is_listed : Go P w K mg base 1 "is_listed" S_is_listed []) (hr : Room 1 (A.deeper (envOfC "many_by" (defScope s_many_by) s.heap.objs.size f cdv))) :
    PSs (cxOf CX0 P w K mg base ["token", "many", "_"] "many_by" (defScope s_many_by) f cdv A outer s H E).nox (defBody s_many_by) (r_many_by K S_is_listed) := by
  have hu : (A.deeper (envOfC "many_by" (defScope s_many_by) s.heap.objs.size f cdv)).units + 64 < cLine := by have := hr.un; omega
  have hu5 : (A.deeper (envOfC "many_by" (defScope s_many_by) s.heap.objs.size f cdv)).units + 65 < cLine := by have := hr.un; omega
  exact (pss_cons (ps_set (i := 1) sc_many_by.nd rfl (by first | exact Or.inl rfl | exact Or.inr rfl) pe_int) (pss_cons (ps_if (PW.pt (pw_and (pt_val (pe_go G_is_listed hr (pa_cons (pv 0) pa_nil))) (pw_and1 (pt_cmpR (op_eqU hu) (pe_ix ix_seq (pv 0) pe_int (fun _ _ => rfl)) pe_str (nomark _))))) (pss_one (ps_for PassesOwn.never rfl (pi_range1 (by rfl) T.b_range (pa_cons (pe_ix ix_seq (pv 0) pe_int (fun _ _ => rfl)) pa_nil)) (pg_name (i := 2) sc_many_by.nd rfl (by first | exact Or.inl rfl | exact Or.inr rfl)) (pss_one (ps_set (i := 1) sc_many_by.nd rfl (by first | exact Or.inl rfl | exact Or.inr rfl) (pe_op op_mulU pe_int (pv 1)))))) pss_nil) (pss_one (ps_ret (pv 1)))))
theorem der_how_many {S_need_tokens : Sp} {S_many_by : Sp} {f : Addr} {cdv : Value} {A : Around} {outer : List Env} {s : Shared} {H : Hp} {E : XK} (G_need_tokens : Go P w K mg base 4 "need_tokens" S_need_tokens []) (G_many_by : Go P w K mg base 2 "many_by" S_many_by []) (hr : Room 4 (A.deeper (envOfC "how_many" (defScope s_how_many) s.heap.objs.size f cdv))) :
    PSs (cxOf CX0 P w K mg base ["tokens", "token"] "how_many" (defScope s_how_many) f cdv A outer s H E).nox (defBody s_how_many) (r_how_many K S_need_tokens S_many_by) := by
  exact (pss_cons (ps_expr (pe_go G_need_tokens hr (pa_cons pe_str (pa_cons (pv 0) pa_nil)))) (pss_one (ps_ret (pe_callB (call_sumU rfl) (by rfl) T.b_sum (by rfl) (pa_cons (pe_lc (own := [("token", 1)]) (by rfl) sc_how_many.nd (pi_seq (pv 0)) (blkOk_by (N := ["tokens", "token"]) (sc := defScope s_how_many) (by decide +kernel)) (fun _ _ _ _ _ => (pg_name (i := 1) sc_how_many.nd rfl (by first | exact Or.inl rfl | exact Or.inr rfl))) (fun _ _ _ _ _ => pts_nil) (fun _ _ _ _ _ => (pe_go G_many_by hr (pa_cons (pv 1) pa_nil)))) pa_nil)))))
theorem der_reach_of  {f : Addr} {cdv : Value} {A : Around} {outer : List Env} {s : Shared} {H : Hp} {E : XK}  (hr : Room 0 (A.deeper (envOfC "reach_of" (defScope s_reach_of) s.heap.objs.size f cdv))) :
    PSs (cxOf CX0 P w K mg base ["way"] "reach_of" (defScope s_reach_of) f cdv A outer s H E).nox (defBody s_reach_of) (r_reach_of K ) := by
  exact (pss_one (ps_ret (pe_ix ix_seq (pv 0) pe_int (fun _ _ => rfl))))
theorem der_begin_of {S_reach_of : Sp} {f : Addr} {cdv : Value} {A : Around} {outer : List Env} {s : Shared} {H : Hp} {E : XK} (G_reach_of : Go P w K mg base 1 "reach_of" S_reach_of []) (hr : Room 1 (A.deeper (envOfC "begin_of" (defScope s_begin_of) s.heap.objs.size f cdv))) :
    PSs (cxOf CX0 P w K mg base ["way"] "begin_of" (defScope s_begin_of) f cdv A outer s H E).nox (defBody s_begin_of) (r_begin_of K S_reach_of) := by
  exact (pss_one (ps_ret (pe_op op_mulU (pe_lst (pa_cons pe_int pa_nil)) (pe_go G_reach_of hr (pa_cons (pv 0) pa_nil)))))
theorem der_next_by  {f : Addr} {cdv : Value} {A : Around} {outer : List Env} {s : Shared} {H : Hp} {E : XK}  (hr : Room 0 (A.deeper (envOfC "next_by" (defScope s_next_by) s.heap.objs.size f cdv))) :
    PSs (cxOf CX0 P w K mg base ["way", "last"] "next_by" (defScope s_next_by) f cdv A outer s H E).nox (defBody s_next_by) (r_next_by K ) := by
  have hu : (A.deeper (envOfC "next_by" (defScope s_next_by) s.heap.objs.size f cdv)).units + 64 < cLine := by have := hr.un; omega
  have hu5 : (A.deeper (envOfC "next_by" (defScope s_next_by) s.heap.objs.size f cdv)).units + 65 < cLine := by have := hr.un; omega
  exact (pss_cons (ps_if (pt_cmpR (op_eqU hu) (pe_ix ix_seq (pv 0) pe_int (fun _ _ => rfl)) pe_str (nomark _)) (pss_one (ps_ret (pe_ix ix_seq (pv 1) pe_int (fun _ _ => rfl)))) pss_nil) (pss_cons (ps_if (pt_cmpR (op_eqU hu) (pe_ix ix_seq (pv 0) pe_int (fun _ _ => rfl)) pe_int (nomark _)) (pss_one (ps_ret pe_int)) pss_nil) (pss_cons (ps_if (pt_cmpR (op_eqU hu) (pe_ix ix_seq (pv 0) pe_int (fun _ _ => rfl)) pe_int (nomark _)) (pss_one (ps_ret (pe_ix ix_seq (pv 1) pe_int (fun _ _ => rfl)))) pss_nil) (pss_cons (ps_if (pt_cmpR (op_eqU hu) (pe_ix ix_seq (pv 0) pe_int (fun _ _ => rfl)) pe_int (nomark _)) (pss_one (ps_ret (pe_op op_sub (pe_op op_mulU pe_int (pe_ix ix_seq (pv 1) pe_int (fun _ _ => rfl))) (pe_ix ix_seq (pv 1) pe_int (fun _ _ => rfl))))) pss_nil) (pss_one (ps_ret (pe_op op_addU (pe_op op_sub (pe_op op_mulU pe_int (pe_ix ix_seq (pv 1) pe_int (fun _ _ => rfl))) (pe_op op_mulU pe_int (pe_ix ix_seq (pv 1) pe_int (fun _ _ => rfl)))) (pe_ix ix_seq (pv 1) pe_int (fun _ _ => rfl)))))))))
theorem der_difference_by {S_is_integer : Sp} {f : Addr} {cdv : Value} {A : Around} {outer : List Env} {s : Shared} {H : Hp} {E : XK} (G_is_integer : Go P w K mg base 1 "is_integer" S_is_integer []) (hr : Room 1 (A.deeper (envOfC "difference_by" (defScope s_difference_by) s.heap.objs.size f cdv))) :
    PSs (cxOf CX0 P w K mg base ["token"] "difference_by" (defScope s_difference_by) f cdv A outer s H E).nox (defBody s_difference_by) (r_difference_by K S_is_integer) := by
  exact (pss_one (ps_ret (pe_ifExp (pt_val (pe_go G_is_integer hr (pa_cons (pv 0) pa_nil))) (pv 0) (pe_ix ix_seq (pv 0) pe_int (fun _ _ => rfl)))))
theorem der_moved  {f : Addr} {cdv : Value} {A : Around} {outer : List Env} {s : Shared} {H : Hp} {E : XK}  (hr : Room 0 (A.deeper (envOfC "moved" (defScope s_moved) s.heap.objs.size f cdv))) :
    PSs (cxOf CX0 P w K mg base ["last", "number"] "moved" (defScope s_moved) f cdv A outer s H E).nox (defBody s_moved) (r_moved K ) := by
  have hu : (A.deeper (envOfC "moved" (defScope s_moved) s.heap.objs.size f cdv)).units + 64 < cLine := by have := hr.un; omega
  have hu5 : (A.deeper (envOfC "moved" (defScope s_moved) s.heap.objs.size f cdv)).units + 65 < cLine := by have := hr.un; omega
  exact (pss_one (ps_ret (pe_ifExp (pt_cmpR (op_neU hu) (pv 0) (pe_lst pa_nil) (nomark _)) (pe_slice sl_U (pe_lst (StX.pa_star (pv 0) (pa_cons (pv 1) pa_nil))) (po_some pe_int) po_none) (pe_lst pa_nil))))
theorem der_numbers_of {S_need_way : Sp} {S_how_many : Sp} {S_begin_of : Sp} {S_many_by : Sp} {S_next_by : Sp} {S_difference_by : Sp} {S_moved : Sp} {f : Addr} {cdv : Value} {A : Around} {outer : List Env} {s : Shared} {H : Hp} {E : XK} (G_need_way : Go P w K mg base 4 "need_way" S_need_way []) (G_how_many : Go P w K mg base 5 "how_many" S_how_many []) (G_begin_of : Go P w K mg base 2 "begin_of" S_begin_of []) (G_many_by : Go P w K mg base 2 "many_by" S_many_by []) (G_next_by : Go P w K mg base 1 "next_by" S_next_by []) (G_difference_by : Go P w K mg base 2 "difference_by" S_difference_by []) (G_moved : Go P w K mg base 1 "moved" S_moved []) (hr : Room 5 (A.deeper (envOfC "numbers_of" (defScope s_numbers_of) s.heap.objs.size f cdv))) :
    PSs (cxOf CX0 P w K mg base ["way", "tokens", "found", "last", "token", "is_run", "_", "number"] "numbers_of" (defScope s_numbers_of) f cdv A outer s H E).nox (defBody s_numbers_of) (r_numbers_of K S_need_way S_how_many S_begin_of S_many_by S_next_by S_difference_by S_moved) := by
  exact (pss_cons (ps_expr (pe_go G_need_way hr (pa_cons pe_str (pa_cons pe_str (pa_cons (pv 0) pa_nil))))) (pss_cons (ps_if (pt_cmpR op_gt (pe_go G_how_many hr (pa_cons (pv 1) pa_nil)) (pe_globI (by rfl) T.k_MOST_NUMBERS) (nomark _)) pss_never pss_nil) (pss_cons (ps_par (i := 2) (j := 3) rfl sc_numbers_of.nd rfl rfl (by decide) rfl rfl (pa_cons (pe_lst pa_nil) (pa_cons (pe_go G_begin_of hr (pa_cons (pv 0) pa_nil)) pa_nil)) (by rfl)) (pss_cons (ps_for PassesOwn.never rfl (pi_seq (pv 1)) (pg_name (i := 4) sc_numbers_of.nd rfl (by first | exact Or.inl rfl | exact Or.inr rfl)) (pss_cons (ps_set (i := 5) sc_numbers_of.nd rfl (by first | exact Or.inl rfl | exact Or.inr rfl) (pe_cmpR op_gt (pe_go G_many_by hr (pa_cons (pv 4) pa_nil)) pe_int (nomark _))) (pss_one (ps_for PassesOwn.never rfl (pi_range1 (by rfl) T.b_range (pa_cons (pe_go G_many_by hr (pa_cons (pv 4) pa_nil)) pa_nil)) (pg_name (i := 6) sc_numbers_of.nd rfl (by first | exact Or.inl rfl | exact Or.inr rfl)) (pss_cons (ps_set (i := 7) sc_numbers_of.nd rfl (by first | exact Or.inl rfl | exact Or.inr rfl) (pe_op op_addU (pe_go G_next_by hr (pa_cons (pv 0) (pa_cons (pv 3) pa_nil))) (pe_ifExp (pt_val (pv 5)) pe_int (pe_go G_difference_by hr (pa_cons (pv 4) pa_nil))))) (pss_cons (ps_expr (pe_bm PySem.F.plainAttrs_list PySem.F.slot_list_append PySem.F.type_list_append mt_append (pv 2) (pa_cons (pv 7) pa_nil))) (pss_one (ps_set (i := 3) sc_numbers_of.nd rfl (by first | exact Or.inl rfl | exact Or.inr rfl) (pe_go G_moved hr (pa_cons (pv 3) (pa_cons (pv 7) pa_nil))))))))))) (pss_one (ps_ret (pe_callTy call_tupU (by rfl) T.b_tuple (by rfl) (pa_cons (pv 2) pa_nil))))))))
theorem der__law_next  {f : Addr} {cdv : Value} {A : Around} {outer : List Env} {s : Shared} {H : Hp} {E : XK}  (hr : Room 0 (A.deeper (envOfC "_law_next" (defScope s__law_next) s.heap.objs.size f cdv))) :
    PSs (cxOf CX0 P w K mg base ["way", "numbers", "some", "last", "other", "third"] "_law_next" (defScope s__law_next) f cdv A outer s H E).nox (defBody s__law_next) (r__law_next K ) := by
  have hu : (A.deeper (envOfC "_law_next" (defScope s__law_next) s.heap.objs.size f cdv)).units + 64 < cLine := by have := hr.un; omega
  have hu5 : (A.deeper (envOfC "_law_next" (defScope s__law_next) s.heap.objs.size f cdv)).units + 65 < cLine := by have := hr.un; omega
  exact (pss_cons (ps_set (i := 2) sc__law_next.nd rfl (by first | exact Or.inl rfl | exact Or.inr rfl) (pe_op op_addU (pe_op op_mulU (pe_lst (pa_cons pe_int pa_nil)) pe_int) (pe_callTy (call_listU rfl) (by rfl) T.b_list (by rfl) (pa_cons (pv 1) pa_nil)))) (pss_cons (ps_if (pt_cmpR (op_eqU hu) (pe_ix ix_seq (pv 0) pe_int (fun _ _ => rfl)) pe_str (nomark _)) (pss_one (ps_ret (pe_ix ix_seq (pv 2) (pe_op op_sub (pe_callB call_lenU (by rfl) T.b_len (by rfl) (pa_cons (pv 2) pa_nil)) (pe_ix ix_seq (pv 0) pe_int (fun _ _ => rfl))) (fun _ _ => rfl)))) pss_nil) (pss_cons (ps_par3 (i := 3) (j := 4) (l := 5) rfl sc__law_next.nd rfl rfl rfl (by decide) (by decide) (by decide) rfl rfl rfl (pa_cons (pe_ix ix_seq (pv 2) (pe_un un_neg pe_int) (fun _ _ => rfl)) (pa_cons (pe_ix ix_seq (pv 2) (pe_un un_neg pe_int) (fun _ _ => rfl)) (pa_cons (pe_ix ix_seq (pv 2) (pe_un un_neg pe_int) (fun _ _ => rfl)) pa_nil))) (by rfl)) (pss_one (ps_ret (pe_ix ix_seq (pe_lst (pa_cons pe_int (pa_cons (pv 3) (pa_cons (pe_op op_addU (pv 3) (pe_op op_sub (pv 3) (pv 4))) (pa_cons (pe_op op_addU (pe_op op_addU (pv 3) (pe_op op_sub (pv 3) (pv 4))) (pe_op op_addU (pe_op op_sub (pv 3) (pe_op op_mulU pe_int (pv 4))) (pv 5))) pa_nil))))) (pe_ix ix_seq (pv 0) pe_int (fun _ _ => rfl)) (fun _ _ => rfl)))))))
theorem der__law_numbers {S__law_next : Sp} {f : Addr} {cdv : Value} {A : Around} {outer : List Env} {s : Shared} {H : Hp} {E : XK} (G__law_next : Go P w K mg base 1 "_law_next" S__law_next []) (hr : Room 1 (A.deeper (envOfC "_law_numbers" (defScope s__law_numbers) s.heap.objs.size f cdv))) :
    PSs (cxOf CX0 P w K mg base ["way", "tokens", "found", "token", "word", "turn", "more"] "_law_numbers" (defScope s__law_numbers) f cdv A outer s H E).nox (defBody s__law_numbers) (r__law_numbers K S__law_next) := by
  have hu : (A.deeper (envOfC "_law_numbers" (defScope s__law_numbers) s.heap.objs.size f cdv)).units + 64 < cLine := by have := hr.un; omega
  have hu5 : (A.deeper (envOfC "_law_numbers" (defScope s__law_numbers) s.heap.objs.size f cdv)).units + 65 < cLine := by have := hr.un; omega
  exact (pss_cons (ps_set (i := 2) sc__law_numbers.nd rfl (by first | exact Or.inl rfl | exact Or.inr rfl) (pe_lst pa_nil)) (pss_cons (ps_for PassesOwn.never rfl (pi_seq (pv 1)) (pg_name (i := 3) sc__law_numbers.nd rfl (by first | exact Or.inl rfl | exact Or.inr rfl)) (pss_cons (ps_set (i := 4) sc__law_numbers.nd rfl (by first | exact Or.inl rfl | exact Or.inr rfl) (pe_ifExp (pt_val (pe_callB call_isiU (by rfl) T.b_isinstance (by rfl) (pa_cons (pv 3) (pa_cons (pe_bltn (by rfl) T.b_tuple (by rfl) rfl) pa_nil)))) (pe_ix ix_seq (pv 3) pe_int (fun _ _ => rfl)) pe_str)) (pss_one (ps_for PassesOwn.never rfl (pi_range1 (by rfl) T.b_range (pa_cons (pe_ifExp (PW.pt (pw_and (pt_cmpR (op_eqU hu) (pv 4) pe_str (nomark _)) (pw_and1 (pt_cmpR (op_eqU hu) (pe_ix ix_seq (pv 3) pe_int (fun _ _ => rfl)) pe_int (nomark _))))) (pe_op op_pow pe_int pe_int) (pe_ifExp (pt_cmpR (op_eqU hu) (pv 4) pe_str (nomark _)) (pe_ix ix_seq (pe_lst (pa_cons pe_int (pa_cons pe_int (pa_cons pe_int (pa_cons pe_int (pa_cons pe_int (pa_cons pe_int pa_nil))))))) (pe_ix ix_seq (pv 3) pe_int (fun _ _ => rfl)) (fun _ _ => rfl)) pe_int)) pa_nil)) (pg_name (i := 5) sc__law_numbers.nd rfl (by first | exact Or.inl rfl | exact Or.inr rfl)) (pss_cons (ps_set (i := 6) sc__law_numbers.nd rfl (by first | exact Or.inl rfl | exact Or.inr rfl) (pe_ifExp (pt_cmpR (op_eqU hu) (pv 4) pe_str (nomark _)) pe_int (pe_ifExp (pt_cmpR (op_eqU hu) (pv 4) pe_str (nomark _)) (pe_ix ix_seq (pv 3) pe_int (fun _ _ => rfl)) (pv 3)))) (pss_one (ps_expr (pe_bm PySem.F.plainAttrs_list PySem.F.slot_list_append PySem.F.type_list_append mt_append (pv 2) (pa_cons (pe_op op_addU (pe_go G__law_next hr (pa_cons (pv 0) (pa_cons (pv 2) pa_nil))) (pv 6)) pa_nil))))))))) (pss_one (ps_ret (pv 2)))))
theorem der__law_differences  {f : Addr} {cdv : Value} {A : Around} {outer : List Env} {s : Shared} {H : Hp} {E : XK}  (hr : Room 0 (A.deeper (envOfC "_law_differences" (defScope s__law_differences) s.heap.objs.size f cdv))) :
    PSs (cxOf CX0 P w K mg base ["numbers", "times", "found", "turn", "one", "other"] "_law_differences" (defScope s__law_differences) f cdv A outer s H E).nox (defBody s__law_differences) (r__law_differences K ) := by
  exact (pss_cons (ps_set (i := 2) sc__law_differences.nd rfl (by first | exact Or.inl rfl | exact Or.inr rfl) (pe_callTy (call_listU rfl) (by rfl) T.b_list (by rfl) (pa_cons (pv 0) pa_nil))) (pss_cons (ps_for PassesOwn.never rfl (pi_range1 (by rfl) T.b_range (pa_cons (pv 1) pa_nil)) (pg_name (i := 3) sc__law_differences.nd rfl (by first | exact Or.inl rfl | exact Or.inr rfl)) (pss_one (ps_setLc (i := 2) (own := [("one", 4), ("other", 5)]) (by rfl) sc__law_differences.nd rfl rfl (sw_true rfl rfl rfl (by decide +kernel)) (pi_zip (by rfl) T.b_zip (pa_cons (pv 2) (pa_cons (pe_slice sl_U (pv 2) (po_some pe_int) po_none) pa_nil))) (blkOk_by (N := ["numbers", "times", "found", "turn", "one", "other"]) (sc := defScope s__law_differences) (by decide +kernel)) (fun _ _ _ _ _ => (pg_tup rfl (pgs_cons (pg_name (i := 4) sc__law_differences.nd rfl (by first | exact Or.inl rfl | exact Or.inr rfl)) (pgs_cons (pg_name (i := 5) sc__law_differences.nd rfl (by first | exact Or.inl rfl | exact Or.inr rfl)) pgs_nil)))) (fun _ _ _ _ _ => pts_nil) (fun _ _ _ _ _ => (pe_op op_sub (pv 5) (pv 4)))))) (pss_one (ps_ret (pv 2)))))
theorem der_foretold {S_need_way : Sp} {S_is_listed : Sp} {S_is_integer : Sp} {S_reach_of : Sp} {S_next_by : Sp} {S_begin_of : Sp} {f : Addr} {cdv : Value} {A : Around} {outer : List Env} {s : Shared} {H : Hp} {E : XK} (G_need_way : Go P w K mg base 4 "need_way" S_need_way []) (G_is_listed : Go P w K mg base 1 "is_listed" S_is_listed []) (G_is_integer : Go P w K mg base 1 "is_integer" S_is_integer []) (G_reach_of : Go P w K mg base 1 "reach_of" S_reach_of []) (G_next_by : Go P w K mg base 1 "next_by" S_next_by []) (G_begin_of : Go P w K mg base 2 "begin_of" S_begin_of []) (hr : Room 4 (A.deeper (envOfC "foretold" (defScope s_foretold) s.heap.objs.size f cdv))) :
    PSs (cxOf CX0 P w K mg base ["way", "numbers", "reach", "number"] "foretold" (defScope s_foretold) f cdv A outer s H E).nox (defBody s_foretold) (r_foretold K S_need_way S_is_listed S_is_integer S_reach_of S_next_by S_begin_of) := by
  exact (pss_cons (ps_expr (pe_go G_need_way hr (pa_cons pe_str (pa_cons pe_str (pa_cons (pv 0) pa_nil))))) (pss_cons (ps_if (PW.pt (pw_or (pt_not (pt_val (pe_go G_is_listed hr (pa_cons (pv 1) pa_nil)))) (pw_or1 (pt_not (pt_val (pe_callB (cr_all rfl) (by rfl) T.b_all (by rfl) (pa_cons (pe_lc (own := [("number", 3)]) (by rfl) sc_foretold.nd (pi_seq (pv 1)) (blkOk_by (N := ["way", "numbers", "reach", "number"]) (sc := defScope s_foretold) (by decide +kernel)) (fun _ _ _ _ _ => (pg_name (i := 3) sc_foretold.nd rfl (by first | exact Or.inl rfl | exact Or.inr rfl))) (fun _ _ _ _ _ => pts_nil) (fun _ _ _ _ _ => (pe_go G_is_integer hr (pa_cons (pv 3) pa_nil)))) pa_nil))))))) pss_never pss_nil) (pss_cons (ps_set (i := 2) sc_foretold.nd rfl (by first | exact Or.inl rfl | exact Or.inr rfl) (pe_go G_reach_of hr (pa_cons (pv 0) pa_nil))) (pss_one (ps_ret (pe_ifExp (pt_cmpR op_gt (pv 2) pe_int (nomark _)) (pe_go G_next_by hr (pa_cons (pv 0) (pa_cons (pe_slice sl_U (pe_lst (StX.pa_star (pe_go G_begin_of hr (pa_cons (pv 0) pa_nil)) (StX.pa_star (pv 1) pa_nil))) (po_some (pe_callB call_lenU (by rfl) T.b_len (by rfl) (pa_cons (pv 1) pa_nil))) po_none) pa_nil))) pe_int))))))
theorem der__law_right {S__law_way : Sp} {S__law_draw : Sp} {S_numbers_of : Sp} {S__law_numbers : Sp} {S__law_differences : Sp} {S_foretold : Sp} {S__law_next : Sp} {f : Addr} {cdv : Value} {A : Around} {outer : List Env} {s : Shared} {H : Hp} {E : XK} (G__law_way : Go P w K mg base 2 "_law_way" S__law_way []) (G__law_draw : Go P w K mg base 1 "_law_draw" S__law_draw []) (G_numbers_of : Go P w K mg base 6 "numbers_of" S_numbers_of []) (G__law_numbers : Go P w K mg base 2 "_law_numbers" S__law_numbers []) (G__law_differences : Go P w K mg base 1 "_law_differences" S__law_differences []) (G_foretold : Go P w K mg base 5 "foretold" S_foretold []) (G__law_next : Go P w K mg base 1 "_law_next" S__law_next []) (hr : Room 6 (A.deeper (envOfC "_law_right" (defScope s__law_right) s.heap.objs.size f cdv))) :
    PSs (cxOf CX0 P w K mg base ["pen", "way", "j", "ahead", "numbers", "many", "some", "turn", "number", "at", "one"] "_law_right" (defScope s__law_right) f cdv A outer s H E).nox (defBody s__law_right) (r__law_right K S__law_way S__law_draw S_numbers_of S__law_numbers S__law_differences S_foretold S__law_next) := by
  have hu : (A.deeper (envOfC "_law_right" (defScope s__law_right) s.heap.objs.size f cdv)).units + 64 < cLine := by have := hr.un; omega
  have hu5 : (A.deeper (envOfC "_law_right" (defScope s__law_right) s.heap.objs.size f cdv)).units + 65 < cLine := by have := hr.un; omega
  exact (pss_cons (ps_asg (pe_tup (pa_cons (pe_go G__law_way hr (pa_cons (pv 0) (pa_cons pe_str pa_nil))) (pa_cons (pe_op op_addU pe_int (pe_go G__law_draw hr (pa_cons (pv 0) (pa_cons pe_int pa_nil)))) pa_nil))) (pg_tup rfl (pgs_cons (pg_name (i := 1) sc__law_right.nd rfl (by first | exact Or.inl rfl | exact Or.inr rfl)) (pgs_cons (pg_name (i := 2) sc__law_right.nd rfl (by first | exact Or.inl rfl | exact Or.inr rfl)) pgs_nil)))) (pss_cons (ps_setLc (i := 3) (own := [("turn", 7)]) (by rfl) sc__law_right.nd rfl rfl (sw_true rfl rfl rfl (by decide +kernel)) (pi_range1 (by rfl) T.b_range (pa_cons (pe_go G__law_draw hr (pa_cons (pv 0) (pa_cons pe_int pa_nil))) pa_nil)) (blkOk_by (N := ["pen", "way", "j", "ahead", "numbers", "many", "some", "turn", "number", "at", "one"]) (sc := defScope s__law_right) (by decide +kernel)) (fun _ _ _ _ _ => (pg_name (i := 7) sc__law_right.nd rfl (by first | exact Or.inl rfl | exact Or.inr rfl))) (fun _ _ _ _ _ => pts_nil) (fun _ _ _ _ _ => (pe_op op_sub (pe_go G__law_draw hr (pa_cons (pv 0) (pa_cons pe_int pa_nil))) pe_int))) (pss_cons (ps_set (i := 4) sc__law_right.nd rfl (by first | exact Or.inl rfl | exact Or.inr rfl) (pe_go G_numbers_of hr (pa_cons (pv 1) (pa_cons (pe_op op_addU (pv 3) (pe_lst (pa_cons (pe_tup (pa_cons pe_str (pa_cons (pv 2) pa_nil))) pa_nil))) pa_nil)))) (pss_cons (ps_set (i := 5) sc__law_right.nd rfl (by first | exact Or.inl rfl | exact Or.inr rfl) (pe_op op_addU (pe_callB call_lenU (by rfl) T.b_len (by rfl) (pa_cons (pv 3) pa_nil)) (pe_ix ix_seq (pe_lst (pa_cons pe_int (pa_cons pe_int (pa_cons pe_int (pa_cons pe_int (pa_cons pe_int (pa_cons pe_int (pa_cons pe_int (pa_cons pe_int (pa_cons pe_int (pa_cons pe_int (pa_cons pe_int (pa_cons pe_int pa_nil))))))))))))) (pe_op op_sub (pv 2) pe_int) (fun _ _ => rfl)))) (pss_cons (ps_if (PW.pt (pw_or (pt_cmpR (op_neU hu) (pe_callB call_lenU (by rfl) T.b_len (by rfl) (pa_cons (pv 4) pa_nil)) (pv 5) (nomark _)) (pw_or (pt_cmpR (op_neU hu) (pe_callTy (call_listU rfl) (by rfl) T.b_list (by rfl) (pa_cons (pe_slice sl_U (pv 4) po_none (po_some (pe_callB call_lenU (by rfl) T.b_len (by rfl) (pa_cons (pv 3) pa_nil)))) pa_nil)) (pe_go G__law_numbers hr (pa_cons (pv 1) (pa_cons (pv 3) pa_nil))) (nomark _)) (pw_or1 (pt_cmpR (op_neU hu) (pe_lc (own := [("number", 8)]) (by rfl) sc__law_right.nd (pi_seq (pv 4)) (blkOk_by (N := ["pen", "way", "j", "ahead", "numbers", "many", "some", "turn", "number", "at", "one"]) (sc := defScope s__law_right) (by decide +kernel)) (fun _ _ _ _ _ => (pg_name (i := 8) sc__law_right.nd rfl (by first | exact Or.inl rfl | exact Or.inr rfl))) (fun _ _ _ _ _ => (pts_one (pt_not (pt_val (pe_callB call_isiU (by rfl) T.b_isinstance (by rfl) (pa_cons (pv 8) (pa_cons (pe_bltn (by rfl) T.b_int (by rfl) rfl) pa_nil))))))) (fun _ _ _ _ _ => (pv 8))) (pe_lst pa_nil) (nomark _)))))) (pss_one (ps_ret pe_bl)) pss_nil) (pss_cons (ps_if (pt_cmpR (op_eqU hu) (pe_ix ix_seq (pv 1) pe_int (fun _ _ => rfl)) pe_str (nomark _)) (pss_cons (ps_set (i := 6) sc__law_right.nd rfl (by first | exact Or.inl rfl | exact Or.inr rfl) (pe_op op_addU (pe_op op_mulU (pe_lst (pa_cons pe_int pa_nil)) (pe_ix ix_seq (pv 1) pe_int (fun _ _ => rfl))) (pe_callTy (call_listU rfl) (by rfl) T.b_list (by rfl) (pa_cons (pv 4) pa_nil)))) (pss_one (ps_ret (pe_cmpR (op_eqU hu) (pe_lc (own := [("at", 9)]) (by rfl) sc__law_right.nd (pi_range2 (by rfl) T.b_range (pa_cons (pe_op op_addU (pe_callB call_lenU (by rfl) T.b_len (by rfl) (pa_cons (pv 3) pa_nil)) (pe_ix ix_seq (pv 1) pe_int (fun _ _ => rfl))) (pa_cons (pe_callB call_lenU (by rfl) T.b_len (by rfl) (pa_cons (pv 6) pa_nil)) pa_nil))) (blkOk_by (N := ["pen", "way", "j", "ahead", "numbers", "many", "some", "turn", "number", "at", "one"]) (sc := defScope s__law_right) (by decide +kernel)) (fun _ _ _ _ _ => (pg_name (i := 9) sc__law_right.nd rfl (by first | exact Or.inl rfl | exact Or.inr rfl))) (fun _ _ _ _ _ => (pts_one (pt_cmpR (op_neU hu) (pe_ix ix_seq (pv 6) (pv 9) (fun _ _ => rfl)) (pe_ix ix_seq (pv 6) (pe_op op_sub (pv 9) (pe_ix ix_seq (pv 1) pe_int (fun _ _ => rfl))) (fun _ _ => rfl)) (nomark _)))) (fun _ _ _ _ _ => (pv 9))) (pe_lst pa_nil) (nomark _))))) pss_nil) (pss_cons (ps_set (i := 6) sc__law_right.nd rfl (by first | exact Or.inl rfl | exact Or.inr rfl) (pe_slice sl_U (pe_op op_addU (pe_op op_mulU (pe_lst (pa_cons pe_int pa_nil)) (pe_ix ix_seq (pv 1) pe_int (fun _ _ => rfl))) (pe_callTy (call_listU rfl) (by rfl) T.b_list (by rfl) (pa_cons (pv 4) pa_nil))) (po_some (pe_callB call_lenU (by rfl) T.b_len (by rfl) (pa_cons (pv 3) pa_nil))) po_none)) (pss_one (ps_ret (pe_and (pe_cmpR (op_eqU hu) (pe_lc (own := [("one", 10)]) (by rfl) sc__law_right.nd (pi_seq (pe_go G__law_differences hr (pa_cons (pv 6) (pa_cons (pe_ix ix_seq (pv 1) pe_int (fun _ _ => rfl)) pa_nil)))) (blkOk_by (N := ["pen", "way", "j", "ahead", "numbers", "many", "some", "turn", "number", "at", "one"]) (sc := defScope s__law_right) (by decide +kernel)) (fun _ _ _ _ _ => (pg_name (i := 10) sc__law_right.nd rfl (by first | exact Or.inl rfl | exact Or.inr rfl))) (fun _ _ _ _ _ => (pts_one (pt_cmpR (op_neU hu) (pv 10) pe_int (nomark _)))) (fun _ _ _ _ _ => (pv 10))) (pe_lst pa_nil) (nomark _)) (pe_one (pe_cmpR (op_eqU hu) (pe_go G_foretold hr (pa_cons (pv 1) (pa_cons (pv 4) pa_nil))) (pe_go G__law_next hr (pa_cons (pv 1) (pa_cons (pv 4) pa_nil))) (nomark _)))))))))))))
theorem der_padded  {f : Addr} {cdv : Value} {A : Around} {outer : List Env} {s : Shared} {H : Hp} {E : XK}  (hr : Room 0 (A.deeper (envOfC "padded" (defScope s_padded) s.heap.objs.size f cdv))) :
    PSs (cxOf CX0 P w K mg base ["numbers"] "padded" (defScope s_padded) f cdv A outer s H E).nox (defBody s_padded) (r_padded K ) := by
  exact (pss_one (ps_ret (pe_slice sl_U (pe_lst (StX.pa_star (pv 0) (pa_cons pe_int (pa_cons pe_int pa_nil)))) po_none (po_some pe_int))))
theorem der_trimmed  {f : Addr} {cdv : Value} {A : Around} {outer : List Env} {s : Shared} {H : Hp} {E : XK}  (hr : Room 0 (A.deeper (envOfC "trimmed" (defScope s_trimmed) s.heap.objs.size f cdv))) :
    PSs (cxOf CX0 P w K mg base ["numbers", "count", "found"] "trimmed" (defScope s_trimmed) f cdv A outer s H E).nox (defBody s_trimmed) (r_trimmed K ) := by
  have hu : (A.deeper (envOfC "trimmed" (defScope s_trimmed) s.heap.objs.size f cdv)).units + 64 < cLine := by have := hr.un; omega
  have hu5 : (A.deeper (envOfC "trimmed" (defScope s_trimmed) s.heap.objs.size f cdv)).units + 65 < cLine := by have := hr.un; omega
  exact (pss_cons (ps_set (i := 2) sc_trimmed.nd rfl (by first | exact Or.inl rfl | exact Or.inr rfl) (pe_slice sl_U (pe_callTy (call_listU rfl) (by rfl) T.b_list (by rfl) (pa_cons (pv 0) pa_nil)) po_none (po_some (pv 1)))) (pss_cons (ps_while PassesOwn.never (PW.pt (pw_and (pt_cmpR op_gt (pe_callB call_lenU (by rfl) T.b_len (by rfl) (pa_cons (pv 2) pa_nil)) pe_int (nomark _)) (pw_and1 (pt_cmpR (op_eqU hu) (pe_ix ix_seq (pv 2) (pe_un un_neg pe_int) (fun _ _ => rfl)) pe_int (nomark _))))) (pss_one (ps_expr (pe_bm0 PySem.F.plainAttrs_list PySem.F.slot_list_pop PySem.F.type_list_pop mt_pop (pv 2))))) (pss_one (ps_ret (pv 2)))))
theorem der_pairs_of  {f : Addr} {cdv : Value} {A : Around} {outer : List Env} {s : Shared} {H : Hp} {E : XK}  (hr : Room 0 (A.deeper (envOfC "pairs_of" (defScope s_pairs_of) s.heap.objs.size f cdv))) :
    PSs (cxOf CX0 P w K mg base ["many"] "pairs_of" (defScope s_pairs_of) f cdv A outer s H E).nox (defBody s_pairs_of) (r_pairs_of K ) := by
  exact (pss_one (ps_ret (pe_op op_divU (pe_op op_mulU (pv 0) (pe_op op_sub (pv 0) pe_int)) pe_int)))
theorem der_number_at {S_padded : Sp} {S_pairs_of : Sp} {f : Addr} {cdv : Value} {A : Around} {outer : List Env} {s : Shared} {H : Hp} {E : XK} (G_padded : Go P w K mg base 1 "padded" S_padded []) (G_pairs_of : Go P w K mg base 1 "pairs_of" S_pairs_of []) (hr : Room 1 (A.deeper (envOfC "number_at" (defScope s_number_at) s.heap.objs.size f cdv))) :
    PSs (cxOf CX0 P w K mg base ["kind", "numbers", "index", "first", "more", "bend"] "number_at" (defScope s_number_at) f cdv A outer s H E).nox (defBody s_number_at) (r_number_at K S_padded S_pairs_of) := by
  have hu : (A.deeper (envOfC "number_at" (defScope s_number_at) s.heap.objs.size f cdv)).units + 64 < cLine := by have := hr.un; omega
  have hu5 : (A.deeper (envOfC "number_at" (defScope s_number_at) s.heap.objs.size f cdv)).units + 65 < cLine := by have := hr.un; omega
  exact (pss_cons (ps_if (pt_cmpR (op_eqU hu) (pv 0) pe_str (nomark _)) (pss_one (ps_ret (pe_ix ix_seq (pv 1) (pe_op op_modU (pv 2) (pe_callB call_lenU (by rfl) T.b_len (by rfl) (pa_cons (pv 1) pa_nil))) (fun _ _ => rfl)))) pss_nil) (pss_cons (ps_asg (pe_go G_padded hr (pa_cons (pv 1) pa_nil)) (pg_lst rfl (pgs_cons (pg_name (i := 3) sc_number_at.nd rfl (by first | exact Or.inl rfl | exact Or.inr rfl)) (pgs_cons (pg_name (i := 4) sc_number_at.nd rfl (by first | exact Or.inl rfl | exact Or.inr rfl)) (pgs_cons (pg_name (i := 5) sc_number_at.nd rfl (by first | exact Or.inl rfl | exact Or.inr rfl)) pgs_nil))))) (pss_one (ps_ret (pe_op op_addU (pe_op op_addU (pv 3) (pe_op op_mulU (pv 4) (pv 2))) (pe_op op_mulU (pv 5) (pe_go G_pairs_of hr (pa_cons (pv 2) pa_nil))))))))
theorem der_part_of {S_padded : Sp} {S_trimmed : Sp} {S_number_at : Sp} {f : Addr} {cdv : Value} {A : Around} {outer : List Env} {s : Shared} {H : Hp} {E : XK} (G_padded : Go P w K mg base 1 "padded" S_padded []) (G_trimmed : Go P w K mg base 1 "trimmed" S_trimmed []) (G_number_at : Go P w K mg base 2 "number_at" S_number_at []) (hr : Room 2 (A.deeper (envOfC "part_of" (defScope s_part_of) s.heap.objs.size f cdv))) :
    PSs (cxOf CX0 P w K mg base ["kind", "numbers", "begin", "count", "first", "more", "bend", "at"] "part_of" (defScope s_part_of) f cdv A outer s H E).nox (defBody s_part_of) (r_part_of K S_padded S_trimmed S_number_at) := by
  have hu : (A.deeper (envOfC "part_of" (defScope s_part_of) s.heap.objs.size f cdv)).units + 64 < cLine := by have := hr.un; omega
  have hu5 : (A.deeper (envOfC "part_of" (defScope s_part_of) s.heap.objs.size f cdv)).units + 65 < cLine := by have := hr.un; omega
  exact (pss_cons (ps_if (pt_cmpR (op_eqU hu) (pv 0) pe_str (nomark _)) (pss_one (ps_ret (pe_lc (own := [("at", 7)]) (by rfl) sc_part_of.nd (pi_range1 (by rfl) T.b_range (pa_cons (pe_callB (call_minU rfl hu) (by rfl) T.b_min (by rfl) (pa_cons (pe_callB call_lenU (by rfl) T.b_len (by rfl) (pa_cons (pv 1) pa_nil)) (pa_cons (pv 3) pa_nil))) pa_nil)) (blkOk_by (N := ["kind", "numbers", "begin", "count", "first", "more", "bend", "at"]) (sc := defScope s_part_of) (by decide +kernel)) (fun _ _ _ _ _ => (pg_name (i := 7) sc_part_of.nd rfl (by first | exact Or.inl rfl | exact Or.inr rfl))) (fun _ _ _ _ _ => pts_nil) (fun _ _ _ _ _ => (pe_ix ix_seq (pv 1) (pe_op op_modU (pe_op op_addU (pv 2) (pv 7)) (pe_callB call_lenU (by rfl) T.b_len (by rfl) (pa_cons (pv 1) pa_nil))) (fun _ _ => rfl)))))) pss_nil) (pss_cons (ps_asg (pe_go G_padded hr (pa_cons (pv 1) pa_nil)) (pg_lst rfl (pgs_cons (pg_name (i := 4) sc_part_of.nd rfl (by first | exact Or.inl rfl | exact Or.inr rfl)) (pgs_cons (pg_name (i := 5) sc_part_of.nd rfl (by first | exact Or.inl rfl | exact Or.inr rfl)) (pgs_cons (pg_name (i := 6) sc_part_of.nd rfl (by first | exact Or.inl rfl | exact Or.inr rfl)) pgs_nil))))) (pss_one (ps_ret (pe_go G_trimmed hr (pa_cons (pe_lst (pa_cons (pe_go G_number_at hr (pa_cons (pv 0) (pa_cons (pv 1) (pa_cons (pv 2) pa_nil)))) (pa_cons (pe_op op_addU (pv 5) (pe_op op_mulU (pv 6) (pv 2))) (pa_cons (pv 6) pa_nil)))) (pa_cons (pv 3) pa_nil)))))))
theorem der_cut_row {S_part_of : Sp} {f : Addr} {cdv : Value} {A : Around} {outer : List Env} {s : Shared} {H : Hp} {E : XK} (G_part_of : Go P w K mg base 3 "part_of" S_part_of []) (hr : Room 3 (A.deeper (envOfC "cut_row" (defScope s_cut_row) s.heap.objs.size f cdv))) :
    PSs (cxOf CX0 P w K mg base ["row", "begin", "count"] "cut_row" (defScope s_cut_row) f cdv A outer s H E).nox (defBody s_cut_row) (r_cut_row K S_part_of) := by
  exact (pss_one (ps_ret (pe_tup (pa_cons (pe_ix ix_seq (pv 0) pe_int (fun _ _ => rfl)) (pa_cons (pe_go G_part_of hr (pa_cons (pe_ix ix_seq (pv 0) pe_int (fun _ _ => rfl)) (pa_cons (pe_ix ix_seq (pv 0) pe_int (fun _ _ => rfl)) (pa_cons (pv 1) (pa_cons (pv 2) pa_nil))))) pa_nil)))))
theorem der_moments_of {S_padded : Sp} {f : Addr} {cdv : Value} {A : Around} {outer : List Env} {s : Shared} {H : Hp} {E : XK} (G_padded : Go P w K mg base 1 "padded" S_padded []) (hr : Room 1 (A.deeper (envOfC "moments_of" (defScope s_moments_of) s.heap.objs.size f cdv))) :
    PSs (cxOf CX0 P w K mg base ["kind", "numbers", "count", "first", "more", "_"] "moments_of" (defScope s_moments_of) f cdv A outer s H E).nox (defBody s_moments_of) (r_moments_of K S_padded) := by
  exact (pss_cons (ps_asg (pe_go G_padded hr (pa_cons (pv 1) pa_nil)) (pg_lst rfl (pgs_cons (pg_name (i := 3) sc_moments_of.nd rfl (by first | exact Or.inl rfl | exact Or.inr rfl)) (pgs_cons (pg_name (i := 4) sc_moments_of.nd rfl (by first | exact Or.inl rfl | exact Or.inr rfl)) (pgs_cons (pg_name (i := 5) sc_moments_of.nd rfl (by first | exact Or.inl rfl | exact Or.inr rfl)) pgs_nil))))) (pss_one (ps_ret (pe_tup (pa_cons (pv 3) (pa_cons (pe_ifExp (pt_cmpR op_gt (pv 2) pe_int (nomark _)) (pv 4) pe_int) pa_nil))))))
theorem der_fixed {S_fixed : Sp} {f : Addr} {cdv : Value} {A : Around} {outer : List Env} {s : Shared} {H : Hp} {E : XK} {lv : Nat} (G_fixed : Go P w K mg base lv "fixed" S_fixed []) (hr : Room lv (A.deeper (envOfC "fixed" (defScope s_fixed) s.heap.objs.size f cdv))) :
    PSs (cxOf CX0 P w K mg base ["value", "part"] "fixed" (defScope s_fixed) f cdv A outer s H E).nox (defBody s_fixed) (r_fixed K S_fixed) := by
  exact (pss_cons (ps_if (pt_val (pe_callB call_isiT (by rfl) T.b_isinstance (by rfl) (pa_cons (pv 0) (pa_cons (pe_tup (pa_cons (pe_bltn (by rfl) T.b_list (by rfl) rfl) (pa_cons (pe_bltn (by rfl) T.b_tuple (by rfl) rfl) pa_nil))) pa_nil)))) (pss_one (ps_ret (pe_callTy call_tupU (by rfl) T.b_tuple (by rfl) (pa_cons (pe_lc (own := [("part", 1)]) (by rfl) sc_fixed.nd (pi_seq (pv 0)) (blkOk_by (N := ["value", "part"]) (sc := defScope s_fixed) (by decide +kernel)) (fun _ _ _ _ _ => (pg_name (i := 1) sc_fixed.nd rfl (by first | exact Or.inl rfl | exact Or.inr rfl))) (fun _ _ _ _ _ => pts_nil) (fun _ _ _ _ _ => (pe_go G_fixed hr (pa_cons (pv 1) pa_nil) (Nat.le_refl _)))) pa_nil)))) pss_nil) (pss_one (ps_ret (pv 0))))
theorem der_Paper_init {S_fixed : Sp} {f : Addr} {cdv : Value} {A : Around} {outer : List Env} {s : Shared} {H : Hp} {E : XK} (G_fixed : Go P w K mg base 3 "fixed" S_fixed []) (hr : Room 3 (A.deeper (envOfC "Paper.__init__" (defScope s_Paper_init) s.heap.objs.size f cdv))) :
    PSs (cxOf CX0 P w K mg base ["self", "word", "parts"] "Paper.__init__" (defScope s_Paper_init) f cdv A outer s H E).nox (defBody s_Paper_init) (r_Paper_init K S_fixed) := by
  exact (pss_cons (ps_fld (pv 0) (pv 1) rfl) (pss_one (ps_fld (pv 0) (pe_go G_fixed hr (pa_cons (pv 2) pa_nil)) rfl)))
theorem der_Piece_init  {f cc cda : Addr} {A : Around} {outer : List Env} {s : Shared} {H : Hp} {E : XK}  (hr : Room 4 (A.deeper (NdefX.envF (supF "__init__" "Piece.__init__" (defArgs s_Piece_init) (defBody s_Piece_init) (defScope s_Piece_init) cc cda) f s.heap.objs.size))) :
    PSs (NdefX.ncx CX0 P w K mg base ["self", "moment", "step", "count", "kind", "numbers", "__class__"] (supF "__init__" "Piece.__init__" (defArgs s_Piece_init) (defBody s_Piece_init) (defScope s_Piece_init) cc cda) f A outer s H E).nox ((defBody s_Piece_init).drop 1) (r_Piece_init K ) := by
  exact (pss_one (ps_asg (pe_fld (pv 0) rfl) (pg_tup rfl (pgs_cons (pg_attr (pv 0)) (pgs_cons (pg_attr (pv 0)) (pgs_cons (pg_attr (pv 0)) (pgs_cons (pg_attr (pv 0)) (pgs_cons (pg_attr (pv 0)) pgs_nil))))))))
theorem dera_Piece_init  {f cc cda : Addr} {A : Around} {outer : List Env} {s : Shared} {H : Hp} {E : XK}  (hr : Room 4 (A.deeper (NdefX.envF (supF "__init__" "Piece.__init__" (defArgs s_Piece_init) (defBody s_Piece_init) (defScope s_Piece_init) cc cda) f s.heap.objs.size))) :
    PA (NdefX.ncx CX0 P w K mg base ["self", "moment", "step", "count", "kind", "numbers", "__class__"] (supF "__init__" "Piece.__init__" (defArgs s_Piece_init) (defBody s_Piece_init) (defScope s_Piece_init) cc cda) f A outer s H E) (supArgs s_Piece_init) (a_Piece_init K ) := by
  exact (pa_cons pe_str (pa_cons (pv 1) (pa_cons (pv 2) (pa_cons (pv 3) (pa_cons (pv 4) (pa_cons (pv 5) pa_nil))))))
theorem der_zipped {S_cut_row : Sp} {S_moments_of : Sp} {S_Piece : Sp} {f : Addr} {cdv : Value} {A : Around} {outer : List Env} {s : Shared} {H : Hp} {E : XK} (G_cut_row : Go P w K mg base 4 "cut_row" S_cut_row []) (G_moments_of : Go P w K mg base 2 "moments_of" S_moments_of []) (M_Piece : Mkc P w K mg base 5 "Piece" C_Piece S_Piece []) (hr : Room 6 (A.deeper (envOfC "zipped" (defScope s_zipped) s.heap.objs.size f cdv))) :
    PSs (cxOf CX0 P w K mg base ["moments", "values", "found", "at", "spot", "one", "other", "count", "kind", "numbers", "first", "step"] "zipped" (defScope s_zipped) f cdv A outer s H E).nox (defBody s_zipped) (r_zipped K S_cut_row S_moments_of C_Piece S_Piece) := by
  have hu : (A.deeper (envOfC "zipped" (defScope s_zipped) s.heap.objs.size f cdv)).units + 64 < cLine := by have := hr.un; omega
  have hu5 : (A.deeper (envOfC "zipped" (defScope s_zipped) s.heap.objs.size f cdv)).units + 65 < cLine := by have := hr.un; omega
  exact (pss_cons (ps_asg (pe_tup (pa_cons (pe_lst pa_nil) (pa_cons pe_int (pa_cons pe_int (pa_cons pe_int (pa_cons pe_int pa_nil)))))) (pg_tup rfl (pgs_cons (pg_name (i := 2) sc_zipped.nd rfl (by first | exact Or.inl rfl | exact Or.inr rfl)) (pgs_cons (pg_name (i := 3) sc_zipped.nd rfl (by first | exact Or.inl rfl | exact Or.inr rfl)) (pgs_cons (pg_name (i := 4) sc_zipped.nd rfl (by first | exact Or.inl rfl | exact Or.inr rfl)) (pgs_cons (pg_name (i := 5) sc_zipped.nd rfl (by first | exact Or.inl rfl | exact Or.inr rfl)) (pgs_cons (pg_name (i := 6) sc_zipped.nd rfl (by first | exact Or.inl rfl | exact Or.inr rfl)) pgs_nil))))))) (pss_cons (ps_while PassesOwn.never (pt_cmpR op_lt (pv 3) (pe_callB call_lenU (by rfl) T.b_len (by rfl) (pa_cons (pv 0) pa_nil)) (nomark _)) (pss_cons (ps_set (i := 7) sc_zipped.nd rfl (by first | exact Or.inl rfl | exact Or.inr rfl) (pe_callB (call_minU rfl hu) (by rfl) T.b_min (by rfl) (pa_cons (pe_op op_sub (pe_ix ix_seq (pe_ix ix_seq (pv 0) (pv 3) (fun _ _ => rfl)) pe_int (fun _ _ => rfl)) (pv 5)) (pa_cons (pe_op op_sub (pe_ix ix_seq (pe_ix ix_seq (pv 1) (pv 4) (fun _ _ => rfl)) pe_int (fun _ _ => rfl)) (pv 6)) pa_nil)))) (pss_cons (ps_asg (pe_go G_cut_row hr (pa_cons (pe_ix ix_seq (pv 0) (pv 3) (fun _ _ => rfl)) (pa_cons (pv 5) (pa_cons (pv 7) pa_nil)))) (pg_tup rfl (pgs_cons (pg_name (i := 8) sc_zipped.nd rfl (by first | exact Or.inl rfl | exact Or.inr rfl)) (pgs_cons (pg_name (i := 9) sc_zipped.nd rfl (by first | exact Or.inl rfl | exact Or.inr rfl)) pgs_nil)))) (pss_cons (ps_asg (pe_go G_moments_of hr (pa_cons (pv 8) (pa_cons (pv 9) (pa_cons (pv 7) pa_nil)))) (pg_tup rfl (pgs_cons (pg_name (i := 10) sc_zipped.nd rfl (by first | exact Or.inl rfl | exact Or.inr rfl)) (pgs_cons (pg_name (i := 11) sc_zipped.nd rfl (by first | exact Or.inl rfl | exact Or.inr rfl)) pgs_nil)))) (pss_cons (ps_asg (pe_go G_cut_row hr (pa_cons (pe_ix ix_seq (pv 1) (pv 4) (fun _ _ => rfl)) (pa_cons (pv 6) (pa_cons (pv 7) pa_nil)))) (pg_tup rfl (pgs_cons (pg_name (i := 8) sc_zipped.nd rfl (by first | exact Or.inl rfl | exact Or.inr rfl)) (pgs_cons (pg_name (i := 9) sc_zipped.nd rfl (by first | exact Or.inl rfl | exact Or.inr rfl)) pgs_nil)))) (pss_cons (ps_expr (pe_bm PySem.F.plainAttrs_list PySem.F.slot_list_append PySem.F.type_list_append mt_append (pv 2) (pa_cons (pe_mk M_Piece hr (pa_cons (pv 10) (pa_cons (pv 11) (pa_cons (pv 7) (pa_cons (pv 8) (pa_cons (pv 9) pa_nil)))))) pa_nil))) (pss_cons (ps_par (i := 5) (j := 6) rfl sc_zipped.nd rfl rfl (by decide) rfl rfl (pa_cons (pe_op op_addU (pv 5) (pv 7)) (pa_cons (pe_op op_addU (pv 6) (pv 7)) pa_nil)) (by rfl)) (pss_cons (ps_if (pt_cmpR (op_eqU hu) (pv 5) (pe_ix ix_seq (pe_ix ix_seq (pv 0) (pv 3) (fun _ _ => rfl)) pe_int (fun _ _ => rfl)) (nomark _)) (pss_one (ps_par (i := 3) (j := 5) rfl sc_zipped.nd rfl rfl (by decide) rfl rfl (pa_cons (pe_op op_addU (pv 3) pe_int) (pa_cons pe_int pa_nil)) (by rfl))) pss_nil) (pss_one (ps_if (pt_cmpR (op_eqU hu) (pv 6) (pe_ix ix_seq (pe_ix ix_seq (pv 1) (pv 4) (fun _ _ => rfl)) pe_int (fun _ _ => rfl)) (nomark _)) (pss_one (ps_par (i := 4) (j := 6) rfl sc_zipped.nd rfl rfl (by decide) rfl rfl (pa_cons (pe_op op_addU (pv 4) pe_int) (pa_cons pe_int pa_nil)) (by rfl))) pss_nil)))))))))) (pss_one (ps_ret (pe_callTy call_tupU (by rfl) T.b_tuple (by rfl) (pa_cons (pv 2) pa_nil))))))
theorem der_run_by {S_next_by : Sp} {S_moved : Sp} {S_trimmed : Sp} {f : Addr} {cdv : Value} {A : Around} {outer : List Env} {s : Shared} {H : Hp} {E : XK} (G_next_by : Go P w K mg base 1 "next_by" S_next_by []) (G_moved : Go P w K mg base 1 "moved" S_moved []) (G_trimmed : Go P w K mg base 1 "trimmed" S_trimmed []) (hr : Room 1 (A.deeper (envOfC "run_by" (defScope s_run_by) s.heap.objs.size f cdv))) :
    PSs (cxOf CX0 P w K mg base ["way", "last", "many", "some", "ahead", "_", "number", "first", "second", "third"] "run_by" (defScope s_run_by) f cdv A outer s H E).nox (defBody s_run_by) (r_run_by K S_next_by S_moved S_trimmed) := by
  have hu : (A.deeper (envOfC "run_by" (defScope s_run_by) s.heap.objs.size f cdv)).units + 64 < cLine := by have := hr.un; omega
  have hu5 : (A.deeper (envOfC "run_by" (defScope s_run_by) s.heap.objs.size f cdv)).units + 65 < cLine := by have := hr.un; omega
  exact (pss_cons (ps_if (pt_cmpR (op_eqU hu) (pe_ix ix_seq (pv 0) pe_int (fun _ _ => rfl)) pe_str (nomark _)) (pss_one (ps_ret (pe_tup (pa_cons pe_str (pa_cons (pe_slice sl_U (pe_callTy (call_listU rfl) (by rfl) T.b_list (by rfl) (pa_cons (pv 1) pa_nil)) po_none (po_some (pv 2))) pa_nil))))) pss_nil) (pss_cons (ps_par (i := 3) (j := 4) rfl sc_run_by.nd rfl rfl (by decide) rfl rfl (pa_cons (pe_lst pa_nil) (pa_cons (pv 1) pa_nil)) (by rfl)) (pss_cons (ps_for PassesOwn.never rfl (pi_range1 (by rfl) T.b_range (pa_cons pe_int pa_nil)) (pg_name (i := 5) sc_run_by.nd rfl (by first | exact Or.inl rfl | exact Or.inr rfl)) (pss_cons (ps_set (i := 6) sc_run_by.nd rfl (by first | exact Or.inl rfl | exact Or.inr rfl) (pe_go G_next_by hr (pa_cons (pv 0) (pa_cons (pv 4) pa_nil)))) (pss_cons (ps_expr (pe_bm PySem.F.plainAttrs_list PySem.F.slot_list_append PySem.F.type_list_append mt_append (pv 3) (pa_cons (pv 6) pa_nil))) (pss_one (ps_set (i := 4) sc_run_by.nd rfl (by first | exact Or.inl rfl | exact Or.inr rfl) (pe_go G_moved hr (pa_cons (pv 4) (pa_cons (pv 6) pa_nil)))))))) (pss_cons (ps_asg (pv 3) (pg_lst rfl (pgs_cons (pg_name (i := 7) sc_run_by.nd rfl (by first | exact Or.inl rfl | exact Or.inr rfl)) (pgs_cons (pg_name (i := 8) sc_run_by.nd rfl (by first | exact Or.inl rfl | exact Or.inr rfl)) (pgs_cons (pg_name (i := 9) sc_run_by.nd rfl (by first | exact Or.inl rfl | exact Or.inr rfl)) pgs_nil))))) (pss_one (ps_ret (pe_tup (pa_cons pe_str (pa_cons (pe_go G_trimmed hr (pa_cons (pe_lst (pa_cons (pv 7) (pa_cons (pe_op op_sub (pv 8) (pv 7)) (pa_cons (pe_op op_addU (pe_op op_sub (pv 9) (pe_op op_mulU pe_int (pv 8))) (pv 7)) pa_nil)))) (pa_cons (pv 2) pa_nil))) pa_nil)))))))))
theorem der_last_of {S_number_at : Sp} {f : Addr} {cdv : Value} {A : Around} {outer : List Env} {s : Shared} {H : Hp} {E : XK} (G_number_at : Go P w K mg base 2 "number_at" S_number_at []) (hr : Room 2 (A.deeper (envOfC "last_of" (defScope s_last_of) s.heap.objs.size f cdv))) :
    PSs (cxOf CX0 P w K mg base ["last", "kind", "numbers", "many", "reach", "own", "at"] "last_of" (defScope s_last_of) f cdv A outer s H E).nox (defBody s_last_of) (r_last_of K S_number_at) := by
  exact (pss_cons (ps_set (i := 4) sc_last_of.nd rfl (by first | exact Or.inl rfl | exact Or.inr rfl) (pe_callB call_lenU (by rfl) T.b_len (by rfl) (pa_cons (pv 0) pa_nil))) (pss_cons (ps_setLc (i := 5) (own := [("at", 6)]) (by rfl) sc_last_of.nd rfl rfl (sw_true rfl rfl rfl (by decide +kernel)) (pi_range2 (by rfl) T.b_range (pa_cons (pe_callB (call_maxU rfl) (by rfl) T.b_max (by rfl) (pa_cons pe_int (pa_cons (pe_op op_sub (pv 3) (pv 4)) pa_nil))) (pa_cons (pv 3) pa_nil))) (blkOk_by (N := ["last", "kind", "numbers", "many", "reach", "own", "at"]) (sc := defScope s_last_of) (by decide +kernel)) (fun _ _ _ _ _ => (pg_name (i := 6) sc_last_of.nd rfl (by first | exact Or.inl rfl | exact Or.inr rfl))) (fun _ _ _ _ _ => pts_nil) (fun _ _ _ _ _ => (pe_go G_number_at hr (pa_cons (pv 1) (pa_cons (pv 2) (pa_cons (pv 6) pa_nil)))))) (pss_one (ps_ret (pe_slice sl_U (pe_lst (StX.pa_star (pv 0) (StX.pa_star (pv 5) pa_nil))) (po_some (pe_callB call_lenU (by rfl) T.b_len (by rfl) (pa_cons (pv 5) pa_nil))) po_none)))))
theorem der_stretches_of {S_begin_of : Sp} {S_many_by : Sp} {S_next_by : Sp} {S_difference_by : Sp} {S_moved : Sp} {S_run_by : Sp} {S_last_of : Sp} {f : Addr} {cdv : Value} {A : Around} {outer : List Env} {s : Shared} {H : Hp} {E : XK} (G_begin_of : Go P w K mg base 2 "begin_of" S_begin_of []) (G_many_by : Go P w K mg base 2 "many_by" S_many_by []) (G_next_by : Go P w K mg base 1 "next_by" S_next_by []) (G_difference_by : Go P w K mg base 2 "difference_by" S_difference_by []) (G_moved : Go P w K mg base 1 "moved" S_moved []) (G_run_by : Go P w K mg base 2 "run_by" S_run_by []) (G_last_of : Go P w K mg base 3 "last_of" S_last_of []) (hr : Room 3 (A.deeper (envOfC "stretches_of" (defScope s_stretches_of) s.heap.objs.size f cdv))) :
    PSs (cxOf CX0 P w K mg base ["way", "tokens", "found", "last", "token", "many", "number", "kind", "numbers"] "stretches_of" (defScope s_stretches_of) f cdv A outer s H E).nox (defBody s_stretches_of) (r_stretches_of K S_begin_of S_many_by S_next_by S_difference_by S_moved S_run_by S_last_of) := by
  have hu : (A.deeper (envOfC "stretches_of" (defScope s_stretches_of) s.heap.objs.size f cdv)).units + 64 < cLine := by have := hr.un; omega
  have hu5 : (A.deeper (envOfC "stretches_of" (defScope s_stretches_of) s.heap.objs.size f cdv)).units + 65 < cLine := by have := hr.un; omega
  exact (pss_cons (ps_par (i := 2) (j := 3) rfl sc_stretches_of.nd rfl rfl (by decide) rfl rfl (pa_cons (pe_lst pa_nil) (pa_cons (pe_go G_begin_of hr (pa_cons (pv 0) pa_nil)) pa_nil)) (by rfl)) (pss_cons (ps_for PassesOwn.never rfl (pi_seq (pv 1)) (pg_name (i := 4) sc_stretches_of.nd rfl (by first | exact Or.inl rfl | exact Or.inr rfl)) (pss_cons (ps_set (i := 5) sc_stretches_of.nd rfl (by first | exact Or.inl rfl | exact Or.inr rfl) (pe_go G_many_by hr (pa_cons (pv 4) pa_nil))) (pss_one (ps_if (pt_cmpR (op_eqU hu) (pv 5) pe_int (nomark _)) (pss_cons (ps_set (i := 6) sc_stretches_of.nd rfl (by first | exact Or.inl rfl | exact Or.inr rfl) (pe_op op_addU (pe_go G_next_by hr (pa_cons (pv 0) (pa_cons (pv 3) pa_nil))) (pe_go G_difference_by hr (pa_cons (pv 4) pa_nil)))) (pss_cons (ps_expr (pe_bm PySem.F.plainAttrs_list PySem.F.slot_list_append PySem.F.type_list_append mt_append (pv 2) (pa_cons (pe_tup (pa_cons pe_int (pa_cons pe_str (pa_cons (pe_lst (pa_cons (pv 6) pa_nil)) pa_nil)))) pa_nil))) (pss_one (ps_set (i := 3) sc_stretches_of.nd rfl (by first | exact Or.inl rfl | exact Or.inr rfl) (pe_go G_moved hr (pa_cons (pv 3) (pa_cons (pv 6) pa_nil))))))) (pss_cons (ps_asg (pe_go G_run_by hr (pa_cons (pv 0) (pa_cons (pv 3) (pa_cons (pv 5) pa_nil)))) (pg_tup rfl (pgs_cons (pg_name (i := 7) sc_stretches_of.nd rfl (by first | exact Or.inl rfl | exact Or.inr rfl)) (pgs_cons (pg_name (i := 8) sc_stretches_of.nd rfl (by first | exact Or.inl rfl | exact Or.inr rfl)) pgs_nil)))) (pss_cons (ps_expr (pe_bm PySem.F.plainAttrs_list PySem.F.slot_list_append PySem.F.type_list_append mt_append (pv 2) (pa_cons (pe_tup (pa_cons (pv 5) (pa_cons (pv 7) (pa_cons (pv 8) pa_nil)))) pa_nil))) (pss_one (ps_set (i := 3) sc_stretches_of.nd rfl (by first | exact Or.inl rfl | exact Or.inr rfl) (pe_go G_last_of hr (pa_cons (pv 3) (pa_cons (pv 7) (pa_cons (pv 8) (pa_cons (pv 5) pa_nil))))))))))))) (pss_one (ps_ret (pv 2)))))
theorem der_pieces_of {S_need_way : Sp} {S_need_tokens : Sp} {S_many_by : Sp} {S_zipped : Sp} {S_stretches_of : Sp} {f : Addr} {cdv : Value} {A : Around} {outer : List Env} {s : Shared} {H : Hp} {E : XK} (G_need_way : Go P w K mg base 4 "need_way" S_need_way []) (G_need_tokens : Go P w K mg base 4 "need_tokens" S_need_tokens []) (G_many_by : Go P w K mg base 2 "many_by" S_many_by []) (G_zipped : Go P w K mg base 7 "zipped" S_zipped []) (G_stretches_of : Go P w K mg base 4 "stretches_of" S_stretches_of []) (hr : Room 7 (A.deeper (envOfC "pieces_of" (defScope s_pieces_of) s.heap.objs.size f cdv))) :
    PSs (cxOf CX0 P w K mg base ["moment_way", "moment_tokens", "value_way", "value_tokens", "many", "token"] "pieces_of" (defScope s_pieces_of) f cdv A outer s H E).nox (defBody s_pieces_of) (r_pieces_of K S_need_way S_need_tokens S_many_by S_zipped S_stretches_of) := by
  have hu : (A.deeper (envOfC "pieces_of" (defScope s_pieces_of) s.heap.objs.size f cdv)).units + 64 < cLine := by have := hr.un; omega
  have hu5 : (A.deeper (envOfC "pieces_of" (defScope s_pieces_of) s.heap.objs.size f cdv)).units + 65 < cLine := by have := hr.un; omega
  exact (pss_cons (ps_expr (pe_go G_need_way hr (pa_cons pe_str (pa_cons pe_str (pa_cons (pv 0) pa_nil))))) (pss_cons (ps_expr (pe_go G_need_way hr (pa_cons pe_str (pa_cons pe_str (pa_cons (pv 2) pa_nil))))) (pss_cons (ps_expr (pe_go G_need_tokens hr (pa_cons pe_str (pa_cons (pv 1) pa_nil)))) (pss_cons (ps_expr (pe_go G_need_tokens hr (pa_cons pe_str (pa_cons (pv 3) pa_nil)))) (pss_cons (ps_set (i := 4) sc_pieces_of.nd rfl (by first | exact Or.inl rfl | exact Or.inr rfl) (pe_callB (call_sumU rfl) (by rfl) T.b_sum (by rfl) (pa_cons (pe_lc (own := [("token", 5)]) (by rfl) sc_pieces_of.nd (pi_seq (pv 1)) (blkOk_by (N := ["moment_way", "moment_tokens", "value_way", "value_tokens", "many", "token"]) (sc := defScope s_pieces_of) (by decide +kernel)) (fun _ _ _ _ _ => (pg_name (i := 5) sc_pieces_of.nd rfl (by first | exact Or.inl rfl | exact Or.inr rfl))) (fun _ _ _ _ _ => pts_nil) (fun _ _ _ _ _ => (pe_go G_many_by hr (pa_cons (pv 5) pa_nil)))) pa_nil))) (pss_cons (ps_if (PW.pt (pw_or (pt_cmpR (op_eqU hu) (pv 4) pe_int (nomark _)) (pw_or1 (pt_cmpR (op_neU hu) (pv 4) (pe_callB (call_sumU rfl) (by rfl) T.b_sum (by rfl) (pa_cons (pe_lc (own := [("token", 5)]) (by rfl) sc_pieces_of.nd (pi_seq (pv 3)) (blkOk_by (N := ["moment_way", "moment_tokens", "value_way", "value_tokens", "many", "token"]) (sc := defScope s_pieces_of) (by decide +kernel)) (fun _ _ _ _ _ => (pg_name (i := 5) sc_pieces_of.nd rfl (by first | exact Or.inl rfl | exact Or.inr rfl))) (fun _ _ _ _ _ => pts_nil) (fun _ _ _ _ _ => (pe_go G_many_by hr (pa_cons (pv 5) pa_nil)))) pa_nil)) (nomark _))))) pss_never pss_nil) (pss_one (ps_ret (pe_go G_zipped hr (pa_cons (pe_go G_stretches_of hr (pa_cons (pv 0) (pa_cons (pv 1) pa_nil))) (pa_cons (pe_go G_stretches_of hr (pa_cons (pv 2) (pa_cons (pv 3) pa_nil))) pa_nil)))))))))))
theorem der_is_piece {S_is_within : Sp} {S_is_listed : Sp} {S_is_integer : Sp} {f : Addr} {cdv : Value} {A : Around} {outer : List Env} {s : Shared} {H : Hp} {E : XK} (G_is_within : Go P w K mg base 2 "is_within" S_is_within []) (G_is_listed : Go P w K mg base 1 "is_listed" S_is_listed []) (G_is_integer : Go P w K mg base 1 "is_integer" S_is_integer []) (hr : Room 2 (A.deeper (envOfC "is_piece" (defScope s_is_piece) s.heap.objs.size f cdv))) :
    PSs (cxOf CX0 P w K mg base ["value", "one"] "is_piece" (defScope s_is_piece) f cdv A outer s H E).nox (defBody s_is_piece) (r_is_piece K C_Piece S_is_within S_is_listed S_is_integer) := by
  have hu : (A.deeper (envOfC "is_piece" (defScope s_is_piece) s.heap.objs.size f cdv)).units + 64 < cLine := by have := hr.un; omega
  have hu5 : (A.deeper (envOfC "is_piece" (defScope s_is_piece) s.heap.objs.size f cdv)).units + 65 < cLine := by have := hr.un; omega
  exact (pss_cons (ps_if (PW.pt (pw_or (pt_not (pt_val (pe_callB call_isiU (by rfl) T.b_isinstance (by rfl) (pa_cons (pv 0) (pa_cons (pe_glob (by rfl) T.c_Piece rfl) pa_nil))))) (pw_or (pt_not (pt_val (pe_go G_is_within hr (pa_cons (pe_fld (pv 0) rfl) (pa_cons pe_int (pa_cons (pe_globI (by rfl) T.k_MOST_COUNT) pa_nil)))))) (pw_or1 (pt_not (pt_val (pe_go G_is_listed hr (pa_cons (pe_fld (pv 0) rfl) pa_nil)))))))) (pss_one (ps_ret pe_bl)) pss_nil) (pss_cons (ps_if (PW.pt (pw_or (pt_not (pt_val (pe_go G_is_integer hr (pa_cons (pe_fld (pv 0) rfl) pa_nil)))) (pw_or (pt_not (pt_val (pe_go G_is_integer hr (pa_cons (pe_fld (pv 0) rfl) pa_nil)))) (pw_or1 (PW.pt (pw_and (pt_cmpR (op_eqU hu) (pe_fld (pv 0) rfl) pe_int (nomark _)) (pw_and1 (pt_cmpR (op_neU hu) (pe_fld (pv 0) rfl) pe_int (nomark _))))))))) (pss_one (ps_ret pe_bl)) pss_nil) (pss_cons (ps_if (PW.pt (pw_or (pt_not (pt_val (pe_callB call_isiU (by rfl) T.b_isinstance (by rfl) (pa_cons (pe_fld (pv 0) rfl) (pa_cons (pe_bltn (by rfl) T.b_str (by rfl) rfl) pa_nil))))) (pw_or1 (pt_cmpR (op_notInU hu5) (pe_fld (pv 0) rfl) (pe_globT (by rfl) T.k_KINDS) (by with_unfolding_all rfl))))) (pss_one (ps_ret pe_bl)) pss_nil) (pss_cons (ps_if (pt_not (pt_val (pe_callB (cr_all rfl) (by rfl) T.b_all (by rfl) (pa_cons (pe_lc (own := [("one", 1)]) (by rfl) sc_is_piece.nd (pi_seq (pe_fld (pv 0) rfl)) (blkOk_by (N := ["value", "one"]) (sc := defScope s_is_piece) (by decide +kernel)) (fun _ _ _ _ _ => (pg_name (i := 1) sc_is_piece.nd rfl (by first | exact Or.inl rfl | exact Or.inr rfl))) (fun _ _ _ _ _ => pts_nil) (fun _ _ _ _ _ => (pe_go G_is_integer hr (pa_cons (pv 1) pa_nil)))) pa_nil)))) (pss_one (ps_ret pe_bl)) pss_nil) (pss_cons (ps_if (pt_not (pt_chain op_le op_le pe_int (pe_callB call_lenU (by rfl) T.b_len (by rfl) (pa_cons (pe_fld (pv 0) rfl) pa_nil)) (pe_callB (call_minU rfl hu) (by rfl) T.b_min (by rfl) (pa_cons (pe_fld (pv 0) rfl) (pa_cons (pe_ifExp (pt_cmpR (op_eqU hu) (pe_fld (pv 0) rfl) pe_str (nomark _)) pe_int (pe_globI (by rfl) T.k_MOST_PERIOD)) pa_nil))))) (pss_one (ps_ret pe_bl)) pss_nil) (pss_one (ps_ret (pe_or (pe_cmpR (op_eqU hu) (pe_fld (pv 0) rfl) pe_str (nomark _)) (pe_or (pe_cmpR (op_eqU hu) (pe_callB call_lenU (by rfl) T.b_len (by rfl) (pa_cons (pe_fld (pv 0) rfl) pa_nil)) pe_int (nomark _)) (pe_one (pe_cmpR (op_neU hu) (pe_ix ix_seq (pe_fld (pv 0) rfl) (pe_un un_neg pe_int) (fun _ _ => rfl)) pe_int (nomark _))))))))))))
theorem der_turn_of {S_padded : Sp} {f : Addr} {cdv : Value} {A : Around} {outer : List Env} {s : Shared} {H : Hp} {E : XK} (G_padded : Go P w K mg base 1 "padded" S_padded []) (hr : Room 1 (A.deeper (envOfC "turn_of" (defScope s_turn_of) s.heap.objs.size f cdv))) :
    PSs (cxOf CX0 P w K mg base ["numbers", "count", "first", "more", "bend", "spot"] "turn_of" (defScope s_turn_of) f cdv A outer s H E).nox (defBody s_turn_of) (r_turn_of K S_padded) := by
  have hu : (A.deeper (envOfC "turn_of" (defScope s_turn_of) s.heap.objs.size f cdv)).units + 64 < cLine := by have := hr.un; omega
  have hu5 : (A.deeper (envOfC "turn_of" (defScope s_turn_of) s.heap.objs.size f cdv)).units + 65 < cLine := by have := hr.un; omega
  exact (pss_cons (ps_asg (pe_go G_padded hr (pa_cons (pv 0) pa_nil)) (pg_lst rfl (pgs_cons (pg_name (i := 2) sc_turn_of.nd rfl (by first | exact Or.inl rfl | exact Or.inr rfl)) (pgs_cons (pg_name (i := 3) sc_turn_of.nd rfl (by first | exact Or.inl rfl | exact Or.inr rfl)) (pgs_cons (pg_name (i := 4) sc_turn_of.nd rfl (by first | exact Or.inl rfl | exact Or.inr rfl)) pgs_nil))))) (pss_cons (ps_if (PW.pt (pw_or (pt_cmpR (op_eqU hu) (pv 4) pe_int (nomark _)) (pw_or1 (pt_cmpR op_lt (pv 1) pe_int (nomark _))))) (pss_one (ps_ret (pe_op op_sub (pv 1) pe_int))) pss_nil) (pss_cons (ps_set (i := 5) sc_turn_of.nd rfl (by first | exact Or.inl rfl | exact Or.inr rfl) (pe_ifExp (PW.pt (pw_and (pt_cmpR (op_neU hu) (pe_cmpR op_gt (pv 3) pe_int (nomark _)) (pe_cmpR op_gt (pv 4) pe_int (nomark _)) (nomark _)) (pw_and1 (pt_cmpR (op_neU hu) (pv 3) pe_int (nomark _))))) (pe_un un_neg (pe_op op_divU (pe_un un_neg (pe_callB call_absU (by rfl) T.b_abs (by rfl) (pa_cons (pv 3) pa_nil))) (pe_callB call_absU (by rfl) T.b_abs (by rfl) (pa_cons (pv 4) pa_nil)))) pe_int)) (pss_one (ps_ret (pe_callB (call_minU rfl hu) (by rfl) T.b_min (by rfl) (pa_cons (pe_callB (call_maxU rfl) (by rfl) T.b_max (by rfl) (pa_cons (pv 5) (pa_cons pe_int pa_nil))) (pa_cons (pe_op op_sub (pv 1) pe_int) pa_nil))))))))
theorem der_first_bad_moment  {f : Addr} {cdv : Value} {A : Around} {outer : List Env} {s : Shared} {H : Hp} {E : XK}  (hr : Room 0 (A.deeper (envOfC "first_bad_moment" (defScope s_first_bad_moment) s.heap.objs.size f cdv))) :
    PSs (cxOf CX0 P w K mg base ["piece", "room"] "first_bad_moment" (defScope s_first_bad_moment) f cdv A outer s H E).nox (defBody s_first_bad_moment) (r_first_bad_moment K ) := by
  have hu : (A.deeper (envOfC "first_bad_moment" (defScope s_first_bad_moment) s.heap.objs.size f cdv)).units + 64 < cLine := by have := hr.un; omega
  have hu5 : (A.deeper (envOfC "first_bad_moment" (defScope s_first_bad_moment) s.heap.objs.size f cdv)).units + 65 < cLine := by have := hr.un; omega
  exact (pss_cons (ps_if (pt_not (pt_chain op_le op_le pe_int (pe_fld (pv 0) rfl) (pe_globI (by rfl) T.k_MOST_MOMENT))) (pss_one (ps_ret pe_int)) pss_nil) (pss_cons (ps_if (PW.pt (pw_and (pt_cmpR op_gt (pe_fld (pv 0) rfl) pe_int (nomark _)) (pw_and1 (pt_cmpR op_lt (pe_fld (pv 0) rfl) pe_int (nomark _))))) (pss_one (ps_ret pe_int)) pss_nil) (pss_cons (ps_set (i := 1) sc_first_bad_moment.nd rfl (by first | exact Or.inl rfl | exact Or.inr rfl) (pe_ifExp (pt_cmpR op_gt (pe_fld (pv 0) rfl) pe_int (nomark _)) (pe_op op_addU (pe_op op_divU (pe_op op_sub (pe_globI (by rfl) T.k_MOST_MOMENT) (pe_fld (pv 0) rfl)) (pe_fld (pv 0) rfl)) pe_int) pe_int)) (pss_one (ps_ret (pe_callB (call_minU rfl hu) (by rfl) T.b_min (by rfl) (pa_cons (pe_fld (pv 0) rfl) (pa_cons (pv 1) pa_nil))))))))
theorem der_wrong_in {S_first_beyond : Sp} {S_first_bad_moment : Sp} {f : Addr} {cdv : Value} {A : Around} {outer : List Env} {s : Shared} {H : Hp} {E : XK} (G_first_beyond : Go P w K mg base 4 "first_beyond" S_first_beyond []) (G_first_bad_moment : Go P w K mg base 1 "first_bad_moment" S_first_bad_moment []) (hr : Room 4 (A.deeper (envOfC "wrong_in" (defScope s_wrong_in) s.heap.objs.size f cdv))) :
    PSs (cxOf CX0 P w K mg base ["piece", "ahead", "beyond"] "wrong_in" (defScope s_wrong_in) f cdv A outer s H E).nox (defBody s_wrong_in) (r_wrong_in K S_first_beyond S_first_bad_moment) := by
  have hu : (A.deeper (envOfC "wrong_in" (defScope s_wrong_in) s.heap.objs.size f cdv)).units + 64 < cLine := by have := hr.un; omega
  have hu5 : (A.deeper (envOfC "wrong_in" (defScope s_wrong_in) s.heap.objs.size f cdv)).units + 65 < cLine := by have := hr.un; omega
  exact (pss_cons (ps_if (PW.pt (pw_and (pt_cmpR op_isNU (pv 1) pe_non (nomark _)) (pw_and1 (pt_cmpR op_le (pe_fld (pv 0) rfl) (pv 1) (nomark _))))) (pss_one (ps_ret pe_int)) pss_nil) (pss_cons (ps_set (i := 2) sc_wrong_in.nd rfl (by first | exact Or.inl rfl | exact Or.inr rfl) (pe_go G_first_beyond hr (pa_cons (pe_fld (pv 0) rfl) (pa_cons (pe_fld (pv 0) rfl) (pa_cons (pe_fld (pv 0) rfl) (pa_cons (pe_op op_sub pe_int (pe_globI (by rfl) T.k_MOST_VALUE)) (pa_cons (pe_globI (by rfl) T.k_MOST_VALUE) pa_nil))))))) (pss_one (ps_ret (pe_callB (call_minU rfl hu) (by rfl) T.b_min (by rfl) (pa_cons (pe_go G_first_bad_moment hr (pa_cons (pv 0) pa_nil)) (pa_cons (pv 2) pa_nil)))))))
theorem der_moment_at  {f : Addr} {cdv : Value} {A : Around} {outer : List Env} {s : Shared} {H : Hp} {E : XK}  (hr : Room 0 (A.deeper (envOfC "moment_at" (defScope s_moment_at) s.heap.objs.size f cdv))) :
    PSs (cxOf CX0 P w K mg base ["piece", "index"] "moment_at" (defScope s_moment_at) f cdv A outer s H E).nox (defBody s_moment_at) (r_moment_at K ) := by
  exact (pss_one (ps_ret (pe_op op_addU (pe_fld (pv 0) rfl) (pe_op op_mulU (pe_fld (pv 0) rfl) (pv 1)))))
theorem der_last_moment {S_moment_at : Sp} {f : Addr} {cdv : Value} {A : Around} {outer : List Env} {s : Shared} {H : Hp} {E : XK} (G_moment_at : Go P w K mg base 1 "moment_at" S_moment_at []) (hr : Room 1 (A.deeper (envOfC "last_moment" (defScope s_last_moment) s.heap.objs.size f cdv))) :
    PSs (cxOf CX0 P w K mg base ["piece"] "last_moment" (defScope s_last_moment) f cdv A outer s H E).nox (defBody s_last_moment) (r_last_moment K S_moment_at) := by
  exact (pss_one (ps_ret (pe_go G_moment_at hr (pa_cons (pv 0) (pa_cons (pe_op op_sub (pe_fld (pv 0) rfl) pe_int) pa_nil)))))
theorem der_first_wrong {S_wrong_in : Sp} {S_last_moment : Sp} {f : Addr} {cdv : Value} {A : Around} {outer : List Env} {s : Shared} {H : Hp} {E : XK} (G_wrong_in : Go P w K mg base 5 "wrong_in" S_wrong_in []) (G_last_moment : Go P w K mg base 2 "last_moment" S_last_moment []) (hr : Room 5 (A.deeper (envOfC "first_wrong" (defScope s_first_wrong) s.heap.objs.size f cdv))) :
    PSs (cxOf CX0 P w K mg base ["pieces", "seen", "ahead", "piece", "spot"] "first_wrong" (defScope s_first_wrong) f cdv A outer s H E).nox (defBody s_first_wrong) (r_first_wrong K S_wrong_in S_last_moment) := by
  exact (pss_cons (ps_asg (pe_tup (pa_cons pe_int (pa_cons pe_non pa_nil))) (pg_tup rfl (pgs_cons (pg_name (i := 1) sc_first_wrong.nd rfl (by first | exact Or.inl rfl | exact Or.inr rfl)) (pgs_cons (pg_name (i := 2) sc_first_wrong.nd rfl (by first | exact Or.inl rfl | exact Or.inr rfl)) pgs_nil)))) (pss_cons (ps_for PassesOwn.never rfl (pi_seq (pv 0)) (pg_name (i := 3) sc_first_wrong.nd rfl (by first | exact Or.inl rfl | exact Or.inr rfl)) (pss_cons (ps_set (i := 4) sc_first_wrong.nd rfl (by first | exact Or.inl rfl | exact Or.inr rfl) (pe_go G_wrong_in hr (pa_cons (pv 3) (pa_cons (pv 2) pa_nil)))) (pss_cons (ps_if (pt_cmpR op_lt (pv 4) (pe_fld (pv 3) rfl) (nomark _)) (pss_one (ps_ret (pe_op op_addU (pv 1) (pv 4)))) pss_nil) (pss_one (ps_par (i := 1) (j := 2) rfl sc_first_wrong.nd rfl rfl (by decide) rfl rfl (pa_cons (pe_op op_addU (pv 1) (pe_fld (pv 3) rfl)) (pa_cons (pe_go G_last_moment hr (pa_cons (pv 3) pa_nil)) pa_nil)) (by rfl)))))) (pss_one (ps_ret pe_non))))
theorem der_are_pieces {S_is_listed : Sp} {S_is_piece : Sp} {S_first_wrong : Sp} {f : Addr} {cdv : Value} {A : Around} {outer : List Env} {s : Shared} {H : Hp} {E : XK} (G_is_listed : Go P w K mg base 1 "is_listed" S_is_listed []) (G_is_piece : Go P w K mg base 3 "is_piece" S_is_piece []) (G_first_wrong : Go P w K mg base 6 "first_wrong" S_first_wrong []) (hr : Room 6 (A.deeper (envOfC "are_pieces" (defScope s_are_pieces) s.heap.objs.size f cdv))) :
    PSs (cxOf CX0 P w K mg base ["value", "piece"] "are_pieces" (defScope s_are_pieces) f cdv A outer s H E).nox (defBody s_are_pieces) (r_are_pieces K S_is_listed S_is_piece S_first_wrong) := by
  exact (pss_one (ps_ret (pe_and (pe_go G_is_listed hr (pa_cons (pv 0) pa_nil)) (pe_and (pe_callB (cr_all rfl) (by rfl) T.b_all (by rfl) (pa_cons (pe_lc (own := [("piece", 1)]) (by rfl) sc_are_pieces.nd (pi_seq (pv 0)) (blkOk_by (N := ["value", "piece"]) (sc := defScope s_are_pieces) (by decide +kernel)) (fun _ _ _ _ _ => (pg_name (i := 1) sc_are_pieces.nd rfl (by first | exact Or.inl rfl | exact Or.inr rfl))) (fun _ _ _ _ _ => pts_nil) (fun _ _ _ _ _ => (pe_go G_is_piece hr (pa_cons (pv 1) pa_nil)))) pa_nil)) (pe_one (pe_cmpR op_isU (pe_go G_first_wrong hr (pa_cons (pv 0) pa_nil)) pe_non (nomark _)))))))
theorem der_need_pieces {S_are_pieces : Sp} {f : Addr} {cdv : Value} {A : Around} {outer : List Env} {s : Shared} {H : Hp} {E : XK} (G_are_pieces : Go P w K mg base 7 "are_pieces" S_are_pieces []) (hr : Room 7 (A.deeper (envOfC "need_pieces" (defScope s_need_pieces) s.heap.objs.size f cdv))) :
    PSs (cxOf CX0 P w K mg base ["part", "value"] "need_pieces" (defScope s_need_pieces) f cdv A outer s H E).nox (defBody s_need_pieces) (r_need_pieces K S_are_pieces) := by
  exact (pss_one (ps_if (pt_not (pt_val (pe_go G_are_pieces hr (pa_cons (pv 1) pa_nil)))) pss_never pss_nil))
theorem der_value_at {S_number_at : Sp} {f : Addr} {cdv : Value} {A : Around} {outer : List Env} {s : Shared} {H : Hp} {E : XK} (G_number_at : Go P w K mg base 2 "number_at" S_number_at []) (hr : Room 2 (A.deeper (envOfC "value_at" (defScope s_value_at) s.heap.objs.size f cdv))) :
    PSs (cxOf CX0 P w K mg base ["piece", "index"] "value_at" (defScope s_value_at) f cdv A outer s H E).nox (defBody s_value_at) (r_value_at K S_number_at) := by
  exact (pss_one (ps_ret (pe_go G_number_at hr (pa_cons (pe_fld (pv 0) rfl) (pa_cons (pe_fld (pv 0) rfl) (pa_cons (pv 1) pa_nil))))))
theorem der_point_at {S_need_pieces : Sp} {S_is_within : Sp} {S_moment_at : Sp} {S_value_at : Sp} {f : Addr} {cdv : Value} {A : Around} {outer : List Env} {s : Shared} {H : Hp} {E : XK} (G_need_pieces : Go P w K mg base 8 "need_pieces" S_need_pieces []) (G_is_within : Go P w K mg base 2 "is_within" S_is_within []) (G_moment_at : Go P w K mg base 1 "moment_at" S_moment_at []) (G_value_at : Go P w K mg base 3 "value_at" S_value_at []) (hr : Room 8 (A.deeper (envOfC "point_at" (defScope s_point_at) s.heap.objs.size f cdv))) :
    PSs (cxOf CX0 P w K mg base ["pieces", "index", "piece"] "point_at" (defScope s_point_at) f cdv A outer s H E).nox (defBody s_point_at) (r_point_at K S_need_pieces S_is_within S_moment_at S_value_at) := by
  exact (pss_cons (ps_expr (pe_go G_need_pieces hr (pa_cons pe_str (pa_cons (pv 0) pa_nil)))) (pss_cons (ps_if (pt_not (pt_val (pe_go G_is_within hr (pa_cons (pv 1) (pa_cons pe_int (pa_cons (pe_op op_sub (pe_callB (call_sumU rfl) (by rfl) T.b_sum (by rfl) (pa_cons (pe_lc (own := [("piece", 2)]) (by rfl) sc_point_at.nd (pi_seq (pv 0)) (blkOk_by (N := ["pieces", "index", "piece"]) (sc := defScope s_point_at) (by decide +kernel)) (fun _ _ _ _ _ => (pg_name (i := 2) sc_point_at.nd rfl (by first | exact Or.inl rfl | exact Or.inr rfl))) (fun _ _ _ _ _ => pts_nil) (fun _ _ _ _ _ => (pe_fld (pv 2) rfl))) pa_nil)) pe_int) pa_nil)))))) pss_never pss_nil) (pss_cons (ps_for PassesOwn.never rfl (pi_seq (pv 0)) (pg_name (i := 2) sc_point_at.nd rfl (by first | exact Or.inl rfl | exact Or.inr rfl)) (pss_cons (ps_if (pt_cmpR op_lt (pv 1) (pe_fld (pv 2) rfl) (nomark _)) (pss_one ps_break) pss_nil) (pss_one (ps_aug (i := 1) sc_point_at.nd rfl (by first | exact Or.inl rfl | exact Or.inr rfl) (pe_fld (pv 2) rfl) ip_sub)))) (pss_one (ps_ret (pe_tup (pa_cons (pe_go G_moment_at hr (pa_cons (pv 2) (pa_cons (pv 1) pa_nil))) (pa_cons (pe_go G_value_at hr (pa_cons (pv 2) (pa_cons (pv 1) pa_nil))) pa_nil))))))))
theorem der__law_piece_right {S__law_way : Sp} {S__law_draw : Sp} {S_numbers_of : Sp} {S_pieces_of : Sp} {S_point_at : Sp} {f : Addr} {cdv : Value} {A : Around} {outer : List Env} {s : Shared} {H : Hp} {E : XK} (G__law_way : Go P w K mg base 2 "_law_way" S__law_way []) (G__law_draw : Go P w K mg base 1 "_law_draw" S__law_draw []) (G_numbers_of : Go P w K mg base 6 "numbers_of" S_numbers_of []) (G_pieces_of : Go P w K mg base 8 "pieces_of" S_pieces_of []) (G_point_at : Go P w K mg base 9 "point_at" S_point_at []) (hr : Room 9 (A.deeper (envOfC "_law_piece_right" (defScope s__law_piece_right) s.heap.objs.size f cdv))) :
    PSs (cxOf CX0 P w K mg base ["pen", "way", "j", "ahead", "numbers", "many", "pieces", "turn", "at", "piece"] "_law_piece_right" (defScope s__law_piece_right) f cdv A outer s H E).nox (defBody s__law_piece_right) (r__law_piece_right K S__law_way S__law_draw S_numbers_of S_pieces_of S_point_at) := by
  have hu : (A.deeper (envOfC "_law_piece_right" (defScope s__law_piece_right) s.heap.objs.size f cdv)).units + 64 < cLine := by have := hr.un; omega
  have hu5 : (A.deeper (envOfC "_law_piece_right" (defScope s__law_piece_right) s.heap.objs.size f cdv)).units + 65 < cLine := by have := hr.un; omega
  exact (pss_cons (ps_par (i := 1) (j := 2) rfl sc__law_piece_right.nd rfl rfl (by decide) rfl rfl (pa_cons (pe_go G__law_way hr (pa_cons (pv 0) (pa_cons pe_str pa_nil))) (pa_cons (pe_op op_addU pe_int (pe_go G__law_draw hr (pa_cons (pv 0) (pa_cons pe_int pa_nil)))) pa_nil)) (by rfl)) (pss_cons (ps_setLc (i := 3) (own := [("turn", 7)]) (by rfl) sc__law_piece_right.nd rfl rfl (sw_true rfl rfl rfl (by decide +kernel)) (pi_range1 (by rfl) T.b_range (pa_cons (pe_op op_addU pe_int (pe_go G__law_draw hr (pa_cons (pv 0) (pa_cons pe_int pa_nil)))) pa_nil)) (blkOk_by (N := ["pen", "way", "j", "ahead", "numbers", "many", "pieces", "turn", "at", "piece"]) (sc := defScope s__law_piece_right) (by decide +kernel)) (fun _ _ _ _ _ => (pg_name (i := 7) sc__law_piece_right.nd rfl (by first | exact Or.inl rfl | exact Or.inr rfl))) (fun _ _ _ _ _ => pts_nil) (fun _ _ _ _ _ => (pe_op op_sub (pe_go G__law_draw hr (pa_cons (pv 0) (pa_cons pe_int pa_nil))) pe_int))) (pss_cons (ps_par (i := 4) (j := 5) rfl sc__law_piece_right.nd rfl rfl (by decide) rfl rfl (pa_cons (pe_go G_numbers_of hr (pa_cons (pv 1) (pa_cons (pe_op op_addU (pv 3) (pe_lst (pa_cons (pe_tup (pa_cons pe_str (pa_cons (pv 2) pa_nil))) pa_nil))) pa_nil))) (pa_cons (pe_callB call_lenU (by rfl) T.b_len (by rfl) (pa_cons (pv 3) pa_nil)) pa_nil)) (by rfl)) (pss_cons (ps_set (i := 6) sc__law_piece_right.nd rfl (by first | exact Or.inl rfl | exact Or.inr rfl) (pe_go G_pieces_of hr (pa_cons (pe_tup (pa_cons pe_str (pa_cons pe_int pa_nil))) (pa_cons (pe_op op_addU (pe_lst (pa_cons pe_int (pa_cons pe_int pa_nil))) (pe_op op_mulU (pe_lst (pa_cons pe_int pa_nil)) (pe_op op_sub (pe_callB call_lenU (by rfl) T.b_len (by rfl) (pa_cons (pv 4) pa_nil)) pe_int))) (pa_cons (pv 1) (pa_cons (pe_op op_addU (pv 3) (pe_lst (pa_cons (pe_tup (pa_cons pe_str (pa_cons (pv 2) pa_nil))) pa_nil))) pa_nil)))))) (pss_cons (ps_if (pt_cmpR (op_neU hu) (pe_callB (call_sumU rfl) (by rfl) T.b_sum (by rfl) (pa_cons (pe_lc (own := [("piece", 9)]) (by rfl) sc__law_piece_right.nd (pi_seq (pv 6)) (blkOk_by (N := ["pen", "way", "j", "ahead", "numbers", "many", "pieces", "turn", "at", "piece"]) (sc := defScope s__law_piece_right) (by decide +kernel)) (fun _ _ _ _ _ => (pg_name (i := 9) sc__law_piece_right.nd rfl (by first | exact Or.inl rfl | exact Or.inr rfl))) (fun _ _ _ _ _ => pts_nil) (fun _ _ _ _ _ => (pe_fld (pv 9) rfl))) pa_nil)) (pe_callB call_lenU (by rfl) T.b_len (by rfl) (pa_cons (pv 4) pa_nil)) (nomark _)) (pss_one (ps_ret pe_bl)) pss_nil) (pss_cons (ps_for PassesOwn.never rfl (pi_range1 (by rfl) T.b_range (pa_cons pe_int pa_nil)) (pg_name (i := 7) sc__law_piece_right.nd rfl (by first | exact Or.inl rfl | exact Or.inr rfl)) (pss_cons (ps_set (i := 8) sc__law_piece_right.nd rfl (by first | exact Or.inl rfl | exact Or.inr rfl) (pe_go G__law_draw hr (pa_cons (pv 0) (pa_cons (pe_callB call_lenU (by rfl) T.b_len (by rfl) (pa_cons (pv 4) pa_nil)) pa_nil)))) (pss_one (ps_if (pt_cmpR (op_neU hu) (pe_go G_point_at hr (pa_cons (pv 6) (pa_cons (pv 8) pa_nil))) (pe_tup (pa_cons (pv 8) (pa_cons (pe_ix ix_seq (pv 4) (pv 8) (fun _ _ => rfl)) pa_nil))) (nomark _)) (pss_one (ps_ret pe_bl)) pss_nil)))) (pss_one (ps_ret (pe_cmpR (op_eqU hu) (pe_go G_point_at hr (pa_cons (pv 6) (pa_cons (pv 5) pa_nil))) (pe_tup (pa_cons (pv 5) (pa_cons (pe_ix ix_seq (pv 4) (pv 5) (fun _ _ => rfl)) pa_nil))) (nomark _))))))))))
theorem der_law {S__law_pen : Sp} {S__law_right : Sp} {S__law_piece_right : Sp} {f : Addr} {cdv : Value} {A : Around} {outer : List Env} {s : Shared} {H : Hp} {E : XK} (G__law_pen : Go P w K mg base 1 "_law_pen" S__law_pen []) (G__law_right : Go P w K mg base 7 "_law_right" S__law_right []) (G__law_piece_right : Go P w K mg base 10 "_law_piece_right" S__law_piece_right []) (hr : Room 10 (A.deeper (envOfC "law" (defScope s_law) s.heap.objs.size f cdv))) :
    PSs (cxOf CX0 P w K mg base ["script", "pen", "turn"] "law" (defScope s_law) f cdv A outer s H E).nox (defBody s_law) (r_law K S__law_pen S__law_right S__law_piece_right) := by
  exact (pss_cons (ps_set (i := 1) sc_law.nd rfl (by first | exact Or.inl rfl | exact Or.inr rfl) (pe_go G__law_pen hr (pa_cons (pv 0) pa_nil))) (pss_cons (ps_for PassesOwn.never rfl (pi_range1 (by rfl) T.b_range (pa_cons pe_int pa_nil)) (pg_name (i := 2) sc_law.nd rfl (by first | exact Or.inl rfl | exact Or.inr rfl)) (pss_one (ps_if (pt_not (pt_val (pe_go G__law_right hr (pa_cons (pv 1) pa_nil)))) (pss_one (ps_ret pe_bl)) pss_nil))) (pss_one (ps_ret (pe_go G__law_piece_right hr (pa_cons (pv 1) pa_nil))))))
end
end K26
set_option Elab.async false
set_option maxRecDepth 100000
set_option maxHeartbeats 4000000
set_option linter.all false
set_option autoImplicit false
set_option hygiene false
local macro_rules | `(tactic| walk_at "way by rule") => `(tactic| first | (guard_target =~ WpE _ _ _ _ _ _; first | (guard_target =~ WpE _ _ (tOp _ _ _) _ _ _; first | ((with_reducible refine e_pen2X ?_); refine ⟨_, rfl, rfl, fun _ _ => ?_⟩) | ((with_reducible refine e_pen1X ?_); refine ⟨_, rfl, rfl, fun _ _ _ => ?_⟩) | ((with_reducible refine e_pen0X ?_); refine ⟨_, rfl, rfl, fun _ _ => ?_⟩) | with_reducible refine e_op ?_) | ((with_reducible refine e_varX ?_); refine ⟨_, rfl, rfl, ?_⟩) | ((with_reducible refine e_slLV ?_); refine ⟨_, rfl, ?_⟩) | ((with_reducible refine e_slTV ?_); refine ⟨_, rfl, ?_⟩) | (guard_target =~ WpE _ _ (tC _) _ _ _; first | with_reducible refine e_int ?_ | with_reducible refine e_str ?_ | with_reducible refine e_bl ?_ | with_reducible refine e_non ?_ | with_reducible refine e_raw ?_) | with_reducible refine e_kt ?_ | with_reducible refine e_un ?_ | with_reducible refine e_cb ?_ | with_reducible refine e_if ?_ | with_reducible refine e_andV ?_ | with_reducible refine e_orV ?_ | with_reducible refine e_notV ?_ | with_reducible refine e_chain ?_ | with_reducible refine e_chain3 ?_ | with_reducible refine e_call ?_ | with_reducible refine e_fld ?_ | with_reducible refine e_tup ?_ | with_reducible refine e_lst ?_ | ((with_reducible refine e_isi2X ?_))) | (guard_target =~ RD _ _ _ _ _ _ _; first | (guard_target =~ RD _ _ (rIx _) _ _ _ _; first | with_reducible refine rd_ixIntsX ⟨⟨?_, ?_⟩, fun _ _ _ => ?_⟩ | ((with_reducible refine rd_ixLX ?_); refine ⟨_, rfl, ?_⟩) | ((with_reducible refine rd_ixTX ?_); refine ⟨_, rfl, ?_⟩) | with_reducible refine rd_ixP0 ?_ | with_reducible refine rd_ixP1 ?_) | (guard_target =~ RD _ _ (rAddU _) _ _ _ _; first | with_reducible refine rd_addI ?_ | with_reducible refine rd_addLX ?_ | with_reducible refine rd_addTX ?_ | with_reducible refine rd_addSX ?_) | (guard_target =~ RD _ _ (rI0 _) _ _ _ _; first | with_reducible refine rd_sub ?_ | with_reducible refine rd_lt ?_ | with_reducible refine rd_le ?_ | with_reducible refine rd_gt ?_ | with_reducible refine rd_ge ?_) | (guard_target =~ RD _ _ (rEqU _) _ _ _ _; first | with_reducible refine rd_eqI ?_ | with_reducible refine rd_eqS ?_ | with_reducible refine rd_eqE ?_) | (guard_target =~ RD _ _ (rNeU _) _ _ _ _; first | with_reducible refine rd_neI ?_ | with_reducible refine rd_neS ?_ | with_reducible refine rd_neNilX ?_ | with_reducible refine rd_neE ?_) | with_reducible refine rd_modX ?_ | with_reducible refine rd_divX ?_ | with_reducible refine rd_mulX ?_ | with_reducible refine rd_powX ?_ | (guard_target =~ RD _ _ rIsU _ _ _ _; first | with_reducible refine rd_isI ?_ | with_reducible refine rd_isL ?_ | with_reducible refine rd_isT ?_ | with_reducible refine rd_isS ?_ | with_reducible refine rd_isNn ?_ | with_reducible refine rd_is rfl ?_) | (guard_target =~ RD _ _ rIsNU _ _ _ _; first | with_reducible refine rd_isNI ?_ | with_reducible refine rd_isNL ?_ | with_reducible refine rd_isNT ?_ | with_reducible refine rd_isNS ?_ | with_reducible refine rd_isNNn ?_ | with_reducible refine rd_isN rfl ?_) | (guard_target =~ RD _ _ (rInU _ _) _ _ _ _; first | with_reducible refine rd_inPts ?_ | with_reducible refine rd_ninPts ?_ | with_reducible refine rd_inIntsX ?_)) | (guard_target =~ WpS _ _ _ _ _ _; first | ((with_reducible refine s_cellX ?_); refine ⟨_, rfl, rfl, _, rfl, fun _ => ?_, ?_⟩) | with_reducible refine s_if ?_ | (guard_target =~ WpS _ _ (tAsg _ _) _ _ _; first | ((with_reducible refine s_pen2X ?_); refine ⟨_, rfl, rfl, ?_⟩) | ((with_reducible refine s_pen1X ?_); refine ⟨_, rfl, rfl, ?_⟩) | with_reducible refine s_set ?_ | with_reducible refine s_asg ?_) | ((with_reducible refine s_appX ?_); refine ⟨_, rfl, ?_⟩) | with_reducible refine s_drop ?_ | with_reducible refine s_seq ?_ | with_reducible refine s_ret ?_ | with_reducible refine s_par ?_ | with_reducible refine s_par3 ?_ | with_reducible refine s_next ?_ | with_reducible refine s_retN ?_) | (guard_target =~ WpT _ _ _ _ _ _; first | with_reducible refine t_test ?_ | with_reducible refine t_B ?_ | with_reducible refine t_and ?_ | with_reducible refine t_or ?_ | with_reducible refine t_not ?_ | with_reducible refine t_yes ?_) | (guard_target =~ WpA _ _ _ _ _ _; first | with_reducible refine a_cons ?_ | with_reducible refine a_nil ?_) | (guard_target =~ RC _ _ _ _ _ _; first | with_reducible refine rc_int ?_ | with_reducible refine rc_intB ?_ | with_reducible refine rc_abs ?_ | with_reducible refine rc_max2 ?_ | with_reducible refine rc_min2 ?_ | (guard_target =~ RC _ _ (rLenU _) _ _ _; first | with_reducible refine rc_lenL ?_ | with_reducible refine rc_lenT ?_ | with_reducible refine rc_lenP ?_) | with_reducible refine rc_listL ?_ | with_reducible refine rc_tupL ?_ | with_reducible refine rc_tupT ?_ | with_reducible refine rc_allF ?_ | with_reducible refine rc_allX ?_ | with_reducible refine rc_sum ?_ | with_reducible refine rc_sumT ?_ | with_reducible refine rc_anyX ?_ | ((with_reducible refine rc_isiBX ?_); refine ⟨_, rfl, _, rfl, ?_⟩)) | with_reducible refine ru_neg ?_ | (guard_target =~ WpI _ _ _ _ _ _; first | ((with_reducible refine i_listV ?_); refine ⟨_, rfl, ?_⟩) | ((with_reducible refine i_tupV ?_); refine ⟨_, rfl, ?_⟩) | with_reducible refine i_rng1 ?_ | with_reducible refine i_rng2 ?_ | with_reducible refine i_zip ?_) | (guard_target =~ WpO _ _ _ _ _ _; first | with_reducible refine o_none ?_ | with_reducible refine o_some ?_) | (guard_target =~ WpN _ _ _ _ _ _ _; first | with_reducible refine n_seq ?_ | with_reducible refine n_if ?_ | with_reducible refine n_next ?_))
local macro_rules | `(tactic| walk_at "way by form") => `(tactic| first | refine ⟨_, _, g_tup (gs_cons g_name (gs_cons g_name gs_nil)) rfl, ?_⟩ | refine ⟨_, _, g_tup (gs_cons g_name (gs_cons g_name (gs_cons g_name gs_nil))) rfl, ?_⟩ | refine ⟨_, _, g_tup (gs_cons g_name (gs_cons g_name (gs_cons g_name (gs_cons g_name gs_nil)))) rfl, ?_⟩ | refine ⟨_, _, g_tup (gs_cons g_name (gs_cons g_name (gs_cons g_name (gs_cons g_name (gs_cons g_name gs_nil))))) rfl, ?_⟩ | with_reducible refine ⟨_, _, _, rfl, rfl, rfl, rfl, ?_⟩ | with_reducible refine Or.inl ⟨_, rfl, ?_⟩ | with_reducible refine Or.inr ⟨_, rfl, ?_⟩ | with_reducible refine Or.inr (Or.inl ⟨_, rfl, ?_⟩) | with_reducible refine Or.inr (Or.inr ⟨_, rfl, ?_⟩) | with_reducible refine ⟨_, rfl, ?_⟩ | with_reducible refine ⟨rfl, ?_⟩ | with_reducible refine ⟨_, _, rfl, ?_⟩ | with_reducible refine ⟨_, _, _, rfl, ?_⟩ | with_reducible refine ⟨_, _, rfl, rfl, ?_⟩ | with_reducible refine ⟨fun _ => ?_, fun _ => ?_⟩ | with_reducible refine fun (_ : _ = true) => ?_ | with_reducible exact rfl | with_reducible refine And.intro ((by simp <;> fail : List.length _ ≤ 100000)) ?_ | with_reducible refine And.intro ((by simp only [List.length_map, List.length_append, List.length_cons, List.length_nil]; omega : List.length _ + List.length _ ≤ 100000)) ?_ | with_reducible refine And.intro (by omega) ?_ | with_reducible refine And.intro (by simp only [List.length_map]; omega) ?_ | with_reducible refine And.intro ((by first | omega | decide : (0 : Int) ≤ _ ∧ _ ≤ 1000000 ∧ Int.natAbs _ < 2 ^ 64)) ?_)
/-! pieces: the pen, the checks, the inits -/
namespace K26
variable [DW.Tb]
open PySem PySem.Spec PyProof.Rows L2 DW
section
variable {K : PySem.W.Frag} {w : Option Addr} {n : Nat} {k : Kn} {es : List D}
theorem draw_bound {y a : Int} (h1 : 0 ≤ y) (h2 : y < 2147483629) (h3 : 0 ≤ a) (h4 : a < 2 ^ 20) : (y * (2 * a + 409) + 51199 * a * a + 211).natAbs < 2 ^ 64 := by
  have e1 : y * (2 * a + 409) ≤ 2147483629 * (2 * 2 ^ 20 + 409) := Int.mul_le_mul (by omega) (by omega) (by omega) (by omega)
  have e2 : 0 ≤ y * (2 * a + 409) := Int.mul_nonneg h1 (by omega)
  have e3 : 51199 * a * a ≤ (51199 * 2 ^ 20) * 2 ^ 20 := Int.mul_le_mul (by omega) (by omega) h3 (by omega)
  have e4 : 0 ≤ 51199 * a * a := Int.mul_nonneg (by omega) h3
  omega
theorem great_nn {c : Int} {b : Bool} (h : decide ((10 : Int) ^ Int.toNat 18 ≤ (c.natAbs : Int)) = true) : 0 ≤ 2 * ((c.natAbs : Int) - (10 : Int) ^ Int.toNat 18) + (if b = true then (1 : Int) else 0) := by
  have h := of_decide_eq_true h
  split <;> omega
theorem w__law_draw (h : drawSp w es n k) : WpS K w (r__law_draw K) (dstart ["pen", "many", "digit", "at", "cell", "great", "mixed"] es) n { nx := fun _ n' => kup k .non n', rt := kup k } := by
  obtain ⟨p, many, rfl, rfl, h0, h1, hn, hk⟩ := h
  unfold r__law_draw
  repeat' (first
    | exact absurd ‹false = true› (by decide)
    | exact absurd ‹true = false› (by decide)
    | walk_at "way by rule"
    | with_reducible refine And.intro (Int.ediv_nonneg (by omega) (by omega)) ?_
    | with_reducible refine ⟨Int.ediv_nonneg (great_nn (by assumption)) (by omega), ?_⟩
    | with_reducible refine ⟨⟨by decide, by decide, draw_bound (Int.emod_nonneg _ (by decide)) (Int.emod_lt_of_pos _ (by decide)) (by omega) (by omega)⟩, ?_⟩
    | walk_at "way by form"
    | fail)
  all_goals try exact ⟨n + 1, by omega, hk _ (Int.emod_nonneg _ (by omega)) (Int.emod_lt_of_pos _ h0)⟩
abbrev pickSp : DSpW := fun w es n k => ∃ (p : Addr) (l : List D), w = some p ∧ es = [.raw (.ref p), .lst l] ∧ 0 < l.length ∧ l.length < 2 ^ 20 ∧ n < 2 ^ 20 ∧ ∀ d, d ∈ l → k d (n + 1)
/-! ### checks -/
abbrev listedSp : DSpW := fun w es n k => (∃ l, es = [.lst l] ∧ k (.bl true) n) ∨ (∃ l, es = [.tup l] ∧ k (.bl true) n) ∨ (∃ i, es = [.int i] ∧ k (.bl false) n)
abbrev integerSp : DSpW := fun w es n k => (∃ i, es = [.int i] ∧ k (.bl true) n) ∨ (∃ l, es = [.tup l] ∧ k (.bl false) n)
abbrev withinSp : DSpW := fun w es n k => ∃ i a b, es = [.int i, .int a, .int b] ∧ k (.bl (decide (a ≤ i) && decide (i ≤ b))) n
theorem w_is_listed (h : listedSp w es n k) : WpS K w (r_is_listed K) (dstart ["value"] es) n { nx := fun _ n' => kup k .non n', rt := kup k } := by
  rcases h with ⟨l, rfl, hk⟩ | ⟨l, rfl, hk⟩ | ⟨l, rfl, hk⟩ <;> unfold r_is_listed <;> (
  repeat' (first
    | exact absurd ‹false = true› (by decide)
    | exact absurd ‹true = false› (by decide)
    | walk_at "way by rule"
    | walk_at "way by form"
    | fail)) <;> exact kup_of hk
theorem w_is_integer (h : integerSp w es n k) : WpS K w (r_is_integer K) (dstart ["value"] es) n { nx := fun _ n' => kup k .non n', rt := kup k } := by
  rcases h with ⟨i, rfl, hk⟩ | ⟨i, rfl, hk⟩ <;> unfold r_is_integer <;> (
  repeat' (first
    | exact absurd ‹false = true› (by decide)
    | exact absurd ‹true = false› (by decide)
    | walk_at "way by rule"
    | walk_at "way by form"
    | fail)) <;> exact kup_of hk
theorem w_is_within (h : withinSp w es n k) : WpS K w (r_is_within K (toSp K integerSp)) (dstart ["value", "least", "most"] es) n { nx := fun _ n' => kup k .non n', rt := kup k } := by
  obtain ⟨i, a, b, rfl, hk⟩ := h
  unfold r_is_within
  repeat' (first
    | exact absurd ‹false = true› (by decide)
    | exact absurd ‹true = false› (by decide)
    | walk_at "way by rule"
    | walk_at "way by form"
    | fail)
  all_goals (refine kup_of ?_; simp_all)
/-! ### fixed: numbers and words, lists of numbers, a piece's parts -/
def kindW (per : Bool) : Str := if per = true then "period" else "order"
/-- a piece's parts as they are handed over, as they are kept -/
def pcIn (m s c : Int) (per : Bool) (ns : D) : List D := [.int m, .int s, .int c, .str (kindW per), ns]
def pcD (m s c : Int) (per : Bool) (ns : List Int) : List D := [.int m, .int s, .int c, .str (kindW per), .tup (ns.map .int)]
abbrev fixed0Sp : DSpW := fun w es n k => (∃ i, es = [.int i] ∧ k (.int i) n) ∨ (∃ x, es = [.str x] ∧ k (.str x) n)
abbrev fixed1Sp : DSpW := fun w es n k => fixed0Sp w es n k ∨ (∃ ns : List Int, (es = [.lst (ns.map .int)] ∨ es = [.tup (ns.map .int)]) ∧ ns.length ≤ 100000 ∧ k (.tup (ns.map .int)) n)
abbrev fixedSp : DSpW := fun w es n k => ∃ (m s c : Int) (per : Bool) (nd : D) (ns : List Int), es = [.tup (pcIn m s c per nd)] ∧ (nd = .lst (ns.map .int) ∨ nd = .tup (ns.map .int)) ∧ ns.length ≤ 100000 ∧ k (.tup (pcD m s c per ns)) n
theorem w_fixed0 {sp : DSpW} (h : fixed0Sp w es n k) : WpS K w (r_fixed K (toSp K sp)) (dstart ["value", "part"] es) n { nx := fun _ n' => kup k .non n', rt := kup k } := by
  rcases h with ⟨i, rfl, hk⟩ | ⟨x, rfl, hk⟩ <;> unfold r_fixed <;> (
  repeat' (first
    | exact absurd ‹false = true› (by decide)
    | exact absurd ‹true = false› (by decide)
    | walk_at "way by rule"
    | walk_at "way by form"
    | fail)) <;> exact kup_of hk
theorem w_fixed1 (h : fixed1Sp w es n k) : WpS K w (r_fixed K (toSp K fixed0Sp)) (dstart ["value", "part"] es) n { nx := fun _ n' => kup k .non n', rt := kup k } := by
  rcases h with h | ⟨ns, h, hz, hk⟩
  · exact w_fixed0 h
  have e : ((ns.filter fun _ => true).map fun z => D.int z) = ns.map .int := by rw [List.filter_eq_self.mpr (fun _ _ => rfl)]
  rcases h with rfl | rfl <;> unfold r_fixed
  · repeat' (first
    | exact absurd ‹false = true› (by decide)
    | exact absurd ‹true = false› (by decide)
    | with_reducible refine e_lcIX ⟨fun _ => true, fun z => .int z, ?_⟩
    | walk_at "way by rule"
    | with_reducible refine ⟨hz, fun _ _ => ?_, ?_⟩
    | exact .inl ⟨_, rfl, rfl, rfl⟩
    | walk_at "way by form"
    | fail)
    all_goals (rw [e]; exact kup_of hk)
  · repeat' (first
    | exact absurd ‹false = true› (by decide)
    | exact absurd ‹true = false› (by decide)
    | with_reducible refine e_lcIX ⟨fun _ => true, fun z => .int z, ?_⟩
    | walk_at "way by rule"
    | with_reducible refine ⟨hz, fun _ _ => ?_, ?_⟩
    | exact .inl ⟨_, rfl, rfl, rfl⟩
    | walk_at "way by form"
    | fail)
    all_goals (rw [e]; exact kup_of hk)
end
end K26
set_option Elab.async false
set_option maxRecDepth 100000
set_option maxHeartbeats 4000000
set_option linter.all false
set_option autoImplicit false
/-! pieces: made -/
namespace K26
variable [DW.Tb]
open PySem PySem.Spec PyProof.Rows L2 DW
def IsNs (nd : D) (ns : List Int) : Prop := nd = .lst (ns.map .int) ∨ nd = .tup (ns.map .int)
theorem IsNs.own {nd : D} {ns : List Int} (h : IsNs nd ns) : isOwn nd = false := by rcases h with rfl | rfl <;> rfl
section
variable {K : PySem.W.Frag} {w : Option Addr} {n : Nat} {k : Kn} {es : List D}
theorem w_fixed (h : fixedSp w es n k) : WpS K w (r_fixed K (toSp K fixed1Sp)) (dstart ["value", "part"] es) n { nx := fun _ n' => kup k .non n', rt := kup k } := by
  obtain ⟨m, s, c, per, nd, ns, rfl, hnd, hz, hk⟩ := h
  have ho : isOwn nd = false := IsNs.own hnd
  unfold r_fixed
  repeat' (first
    | exact absurd ‹false = true› (by decide)
    | exact absurd ‹true = false› (by decide)
    | with_reducible refine e_lcGX ⟨fun i : Nat => (pcIn m s c per nd).getD i .non, fun _ => true, fun i => (pcD m s c per ns).getD i .non, fun i => ?_, ?_⟩
    | walk_at "way by rule"
    | walk_at "way by form"
    | fail)
  · match i with
    | 0 => rfl
    | 1 => rfl
    | 2 => rfl
    | 3 => rfl
    | 4 => exact ho
    | i + 5 => rfl
  repeat' (first
    | exact absurd ‹false = true› (by decide)
    | exact absurd ‹true = false› (by decide)
    | walk_at "way by rule"
    | walk_at "way by form"
    | fail)
  refine ⟨[0, 1, 2, 3, 4], rfl, by simp, fun z hz' => ?_, ?_⟩
  · simp only [List.mem_cons, List.not_mem_nil, or_false] at hz'
    rcases hz' with rfl | rfl | rfl | rfl | rfl
    · repeat' (first
    | exact absurd ‹false = true› (by decide)
    | exact absurd ‹true = false› (by decide)
    | walk_at "way by rule"
    | exact .inl (.inl ⟨_, rfl, rfl, rfl⟩)
    | walk_at "way by form"
    | fail)
    · repeat' (first
    | exact absurd ‹false = true› (by decide)
    | exact absurd ‹true = false› (by decide)
    | walk_at "way by rule"
    | exact .inl (.inl ⟨_, rfl, rfl, rfl⟩)
    | walk_at "way by form"
    | fail)
    · repeat' (first
    | exact absurd ‹false = true› (by decide)
    | exact absurd ‹true = false› (by decide)
    | walk_at "way by rule"
    | exact .inl (.inl ⟨_, rfl, rfl, rfl⟩)
    | walk_at "way by form"
    | fail)
    · repeat' (first
    | exact absurd ‹false = true› (by decide)
    | exact absurd ‹true = false› (by decide)
    | walk_at "way by rule"
    | exact .inl (.inr ⟨_, rfl, rfl, rfl⟩)
    | walk_at "way by form"
    | fail)
    · repeat' (first
    | exact absurd ‹false = true› (by decide)
    | exact absurd ‹true = false› (by decide)
    | ((with_reducible refine e_varX ?_); refine ⟨_, rfl, ho, ?_⟩)
    | walk_at "way by rule"
    | walk_at "way by form"
    | fail)
      refine .inr ⟨ns, ?_, hz, rfl, rfl⟩
      rcases hnd with e | e
      · exact .inl (by rw [← e]; rfl)
      · exact .inr (by rw [← e]; rfl)
  · repeat' (first
    | exact absurd ‹false = true› (by decide)
    | exact absurd ‹true = false› (by decide)
    | walk_at "way by rule"
    | walk_at "way by form"
    | fail)
    exact kup_of hk
end
def PN : List Str := ["word", "parts"]
def XN : List Str := ["word", "parts", "moment", "step", "count", "kind", "numbers"]
def pieceD (C : Addr) (m s c : Int) (per : Bool) (ns : List Int) : D := .obj C XN [.str "piece", .tup (pcD m s c per ns), .int m, .int s, .int c, .str (kindW per), .tup (ns.map .int)]
def gP : List D → List Str → List D → Prop := fun es nn l => ∃ m s c per nd ns, es = [.str "piece", .tup (pcIn m s c per nd)] ∧ IsNs nd ns ∧ ns.length ≤ 100000 ∧ nn = PN ∧ l = [.str "piece", .tup (pcD m s c per ns)]
def gX : List D → List Str → List D → Prop := fun es nn l => ∃ m s c per nd ns, es = pcIn m s c per nd ∧ IsNs nd ns ∧ ns.length ≤ 100000 ∧ nn = XN ∧ l = [.str "piece", .tup (pcD m s c per ns), .int m, .int s, .int c, .str (kindW per), .tup (ns.map .int)]
section
variable {K : PySem.W.Frag} {w : Option Addr} {n : Nat} {k : Kn} {es : List D} {C : Addr} {nn : List Str} {l : List D}
theorem w_Paper_init (T : ClT K C PN) (h : gP es nn l) : WpN K C (r_Paper_init K (toSp K fixedSp)) (nstart ["self", "word", "parts"] es) [] [] fun _ ns' l' => ns' = nn ∧ l' = l := by
  obtain ⟨m, s, c, per, nd, ns, rfl, hnd, hz, rfl, rfl⟩ := h
  unfold r_Paper_init
  repeat' (first
    | exact absurd ‹false = true› (by decide)
    | exact absurd ‹true = false› (by decide)
    | with_reducible refine n_put T.cls (T.na _ (by decide +kernel)) ?_
    | walk_at "way by rule"
    | with_reducible refine And.intro (by decide +kernel : _ ∉ _) ?_
    | with_reducible refine And.intro (by decide : List.length _ < 1000) ?_
    | refine ⟨m, s, c, per, nd, ns, rfl, hnd, hz, ?_⟩
    | walk_at "way by form"
    | fail)
  all_goals rfl
theorem w_Piece_init (T : ClT K C XN) (h : gX es nn l) : WpA K none (a_Piece_init K) (none :: (es.map some ++ none :: List.replicate (7 - (es.length + 2)) none)) 0 fun fs _ => ∃ d r ns1 l1, fs = d :: r ∧ r.length ≤ 100000 ∧ gP [d, .tup r] ns1 l1 ∧
    WpN K C (r_Piece_init K) (none :: (es.map some ++ none :: List.replicate (7 - (es.length + 2)) none)) ns1 l1 fun _ ns' l' => ns' = nn ∧ l' = l := by
  obtain ⟨m, s, c, per, nd, ns, rfl, hnd, hz, rfl, rfl⟩ := h
  have ho : isOwn nd = false := IsNs.own hnd
  unfold a_Piece_init
  repeat' (first
    | exact absurd ‹false = true› (by decide)
    | exact absurd ‹true = false› (by decide)
    | ((with_reducible refine e_varX ?_); refine ⟨_, rfl, ho, ?_⟩)
    | walk_at "way by rule"
    | walk_at "way by form"
    | fail)
  refine ⟨_, _, PN, _, rfl, by simp, ⟨m, s, c, per, nd, ns, rfl, hnd, hz, rfl, rfl⟩, ?_⟩
  unfold r_Piece_init
  refine n_unpack (fs := ["moment", "step", "count", "kind", "numbers"]) (es := pcD m s c per ns) T.cls (T.na _ (by decide +kernel)) rfl rfl rfl (fun g hg => T.na g ?_) (by decide +kernel) (by decide) ⟨rfl, rfl⟩
  revert g hg
  decide +kernel
end
end K26
set_option autoImplicit false
set_option linter.all false
/-! plain laws: pieces and their first wrong point -/
namespace K26
structure Pc where
  m : Int
  s : Int
  c : Int
  per : Bool
  ns : List Int
def pairs (i : Int) : Int := i * (i - 1) / 2
def numAt (per : Bool) (ns : List Int) (i : Int) : Int := if per = true then ns.getD (i % (ns.length : Int)).toNat 0 else ns.getD 0 0 + ns.getD 1 0 * i + ns.getD 2 0 * pairs i
structure Pc.Ok (p : Pc) : Prop where
  c1 : 1 ≤ p.c
  c2 : p.c ≤ 2 ^ 41
  s0 : p.c = 1 → p.s = 0
  n1 : 1 ≤ p.ns.length
  n2 : (p.ns.length : Int) ≤ p.c
  n3 : p.ns.length ≤ if p.per = true then 8 else 3
  nz : p.per = false → p.ns.length = 1 ∨ p.ns.getLast? ≠ some 0
  nb : ∀ z ∈ p.ns, -(2 ^ 50) ≤ z ∧ z ≤ 2 ^ 50
  mb : -(2 ^ 50) ≤ p.m ∧ p.m ≤ 2 ^ 50
  sb : -(2 ^ 50) ≤ p.s ∧ p.s ≤ 2 ^ 50
def Pc.val (p : Pc) (i : Nat) : Int := numAt p.per p.ns i
def Pc.mom (p : Pc) (i : Nat) : Int := p.m + p.s * i
def outV (v : Int) : Bool := decide (v < -(2 ^ 40)) || decide (2 ^ 40 < v)
def badM (p : Pc) (i : Nat) : Bool := (if i = 0 then decide (p.m < 0) else decide (p.s ≤ 0)) || decide (2 ^ 40 ≤ p.mom i)
def bad (p : Pc) (last : Int) (i : Nat) : Bool := (if i = 0 then decide (p.m ≤ last) else decide (p.s ≤ 0)) || decide (2 ^ 40 ≤ p.mom i) || outV (p.val i)
def IsL (c : Int) (f : Nat → Bool) (r : Int) : Prop := 0 ≤ r ∧ r ≤ c ∧ (∀ i : Nat, (i : Int) < r → f i = false) ∧ (r < c → f r.toNat = true)
def spot (p : Pc) (last : Int) : Option Nat := (List.range p.c.toNat).find? (bad p last)
def firstW : List Pc → Int → Option Int
  | [], _ => none
  | p :: r, last => match spot p last with
    | some i => some (i : Int)
    | none => (firstW r (p.mom (p.c.toNat - 1))).map (p.c + ·)
theorem pairs_succ (i : Nat) : pairs ((i + 1 : Nat) : Int) = pairs i + i := by
  unfold pairs
  have e : ((i + 1 : Nat) : Int) * (((i + 1 : Nat) : Int) - 1) = (i : Int) * ((i : Int) - 1) + (i : Int) * 2 := by
    rw [Int.natCast_succ]
    rw [Int.add_sub_cancel, Int.add_mul, Int.mul_sub]
    omega
  rw [e, Int.add_mul_ediv_right _ _ (by decide)]
theorem numAt_succ {ns : List Int} (i : Nat) : numAt false ns ((i + 1 : Nat) : Int) = numAt false ns i + (ns.getD 1 0 + ns.getD 2 0 * i) := by
  unfold numAt
  simp only [Bool.false_eq_true, if_false]
  rw [pairs_succ, Int.natCast_succ, Int.mul_add, Int.mul_add]
  omega
theorem isL_unique {c : Int} {f : Nat → Bool} {r s : Int} (h : IsL c f r) (g : IsL c f s) : r = s := by
  obtain ⟨h1, h2, h3, h4⟩ := h
  obtain ⟨g1, g2, g3, g4⟩ := g
  rcases Int.lt_trichotomy r s with z | z | z
  · have a := h4 (by omega)
    have b := g3 r.toNat (by omega)
    rw [a] at b; cases b
  · exact z
  · have a := g4 (by omega)
    have b := h3 s.toNat (by omega)
    rw [a] at b; cases b
theorem isL_min {c : Int} {f g : Nat → Bool} {r s : Int} (h : IsL c f r) (k : IsL c g s) : IsL c (fun i => f i || g i) (min r s) := by
  obtain ⟨h1, h2, h3, h4⟩ := h
  obtain ⟨g1, g2, g3, g4⟩ := k
  refine ⟨by omega, by omega, fun i hi => ?_, fun hr => ?_⟩
  · show (f i || g i) = false
    rw [h3 i (by omega), g3 i (by omega)]; rfl
  · show (f (min r s).toNat || g (min r s).toNat) = true
    by_cases z : r ≤ s
    · rw [Int.min_eq_left z, h4 (by omega)]; rfl
    · rw [Int.min_eq_right (by omega), g4 (by omega)]; simp
theorem isL_congr {c : Int} {f g : Nat → Bool} {r : Int} (e : ∀ i : Nat, (i : Int) < c → f i = g i) (h : IsL c f r) : IsL c g r := by
  obtain ⟨h1, h2, h3, h4⟩ := h
  refine ⟨h1, h2, fun i hi => ?_, fun hr => ?_⟩
  · rw [← e i (by omega)]; exact h3 i hi
  · rw [← e r.toNat (by omega)]; exact h4 hr
theorem find_range {f : Nat → Bool} : ∀ (n : Nat) (r : Nat), r ≤ n → (∀ i, i < r → f i = false) → (r < n → f r = true) → (List.range n).find? f = if r < n then some r else none := by
  intro n
  induction n with
  | zero => intro r h1 h2 h3; simp
  | succ n ih =>
    intro r h1 h2 h3
    rw [List.range_succ, List.find?_append]
    by_cases z : r < n
    · rw [ih r (by omega) h2 (fun _ => h3 (by omega)), if_pos z, if_pos (by omega)]; rfl
    · by_cases y : r = n
      · subst y
        rw [ih r (Nat.le_refl _) h2 (fun q => absurd q (by omega)), if_neg (by omega), if_pos (by omega)]
        simp [h3 (by omega)]
      · have : r = n + 1 := by omega
        subst this
        rw [ih n (Nat.le_refl _) (fun i hi => h2 i (by omega)) (fun q => absurd q (by omega)), if_neg (by omega), if_neg (by omega)]
        simp [h2 n (by omega)]
theorem spot_of {p : Pc} {last r : Int} (h : IsL p.c (bad p last) r) : spot p last = if r < p.c then some r.toNat else none := by
  obtain ⟨h1, h2, h3, h4⟩ := h
  unfold spot
  rw [find_range p.c.toNat r.toNat (by omega) (fun i hi => h3 i (by omega)) (fun q => h4 (by omega))]
  by_cases z : r < p.c
  · rw [if_pos z, if_pos (by omega)]
  · rw [if_neg z, if_neg (by omega)]
theorem spot_some {p : Pc} {last r : Int} (h : IsL p.c (bad p last) r) (q : r < p.c) : spot p last = some r.toNat := by rw [spot_of h, if_pos q]
theorem spot_none {p : Pc} {last r : Int} (h : IsL p.c (bad p last) r) (q : ¬ r < p.c) : spot p last = none := by rw [spot_of h, if_neg q]
/-! ### what is out of bounds along a stretch whose values go one way -/
def Seg (b e lo hi : Int) : Prop := (∀ i : Int, lo ≤ i → i < hi → 0 ≤ b + e * i) ∨ (∀ i : Int, lo ≤ i → i < hi → b + e * i ≤ 0)
theorem seg_up {v : Nat → Int} {b e lo hi : Int} (hv : ∀ i : Nat, v (i + 1) = v i + (b + e * i)) (h : ∀ i : Int, lo ≤ i → i < hi → 0 ≤ b + e * i) : ∀ (d i : Nat), lo ≤ i → (i : Int) + d ≤ hi → v i ≤ v (i + d)
  | 0, i, _, _ => Int.le_refl _
  | d + 1, i, h1, h2 => by
    have a := seg_up hv h d i h1 (by omega)
    have b' := h ((i + d : Nat) : Int) (by omega) (by omega)
    have c := hv (i + d)
    rw [show i + (d + 1) = i + d + 1 by omega, c]
    omega
theorem seg_dn {v : Nat → Int} {b e lo hi : Int} (hv : ∀ i : Nat, v (i + 1) = v i + (b + e * i)) (h : ∀ i : Int, lo ≤ i → i < hi → b + e * i ≤ 0) : ∀ (d i : Nat), lo ≤ i → (i : Int) + d ≤ hi → v (i + d) ≤ v i
  | 0, i, _, _ => Int.le_refl _
  | d + 1, i, h1, h2 => by
    have a := seg_dn hv h d i h1 (by omega)
    have b' := h ((i + d : Nat) : Int) (by omega) (by omega)
    have c := hv (i + d)
    rw [show i + (d + 1) = i + d + 1 by omega, c]
    omega
theorem seg_mono {v : Nat → Int} {b e : Int} {lo hi : Nat} (hv : ∀ i : Nat, v (i + 1) = v i + (b + e * i)) (h : Seg b e lo hi) : (∀ i j : Nat, lo ≤ i → i ≤ j → j ≤ hi → v i ≤ v j) ∨ (∀ i j : Nat, lo ≤ i → i ≤ j → j ≤ hi → v j ≤ v i) := by
  rcases h with h | h
  · refine .inl fun i j h1 h2 h3 => ?_
    have := seg_up hv h (j - i) i (by omega) (by omega)
    rwa [show i + (j - i) = j by omega] at this
  · refine .inr fun i j h1 h2 h3 => ?_
    have := seg_dn hv h (j - i) i (by omega) (by omega)
    rwa [show i + (j - i) = j by omega] at this
theorem out_false {v : Int} : outV v = false ↔ -(2 ^ 40) ≤ v ∧ v ≤ 2 ^ 40 := by
  unfold outV
  rw [Bool.or_eq_false_iff, decide_eq_false_iff_not, decide_eq_false_iff_not]
  omega
theorem out_true {v : Int} : outV v = true ↔ v < -(2 ^ 40) ∨ 2 ^ 40 < v := by
  unfold outV
  rw [Bool.or_eq_true, decide_eq_true_iff, decide_eq_true_iff]
/-- between two ends that are in, all are in -/
theorem seg_in {v : Nat → Int} {b e : Int} {lo hi : Nat} (hv : ∀ i : Nat, v (i + 1) = v i + (b + e * i)) (h : Seg b e lo hi) (h1 : outV (v lo) = false) (h2 : outV (v hi) = false) (i : Nat) (a : lo ≤ i) (c : i ≤ hi) : outV (v i) = false := by
  rw [out_false] at h1 h2 ⊢
  rcases seg_mono hv h with q | q
  · have := q lo i (Nat.le_refl _) a c
    have := q i hi a c (Nat.le_refl _)
    omega
  · have := q lo i (Nat.le_refl _) a c
    have := q i hi a c (Nat.le_refl _)
    omega
/-- behind a beginning that is in, all behind one that is out are out -/
theorem seg_out {v : Nat → Int} {b e : Int} {lo hi : Nat} (hv : ∀ i : Nat, v (i + 1) = v i + (b + e * i)) (h : Seg b e lo hi) (h1 : outV (v lo) = false) (i j : Nat) (a : lo ≤ i) (ij : i ≤ j) (c : j ≤ hi) (o : outV (v i) = true) : outV (v j) = true := by
  rw [out_false] at h1
  rw [out_true] at o ⊢
  rcases seg_mono hv h with q | q
  · have := q lo i (Nat.le_refl _) a (by omega)
    have := q i j a ij c
    omega
  · have := q lo i (Nat.le_refl _) a (by omega)
    have := q i j a ij c
    omega
/-! ### where differences change their sign -/
def turnSpot (b e : Int) : Int := if (decide (0 < b) != decide (0 < e)) = true ∧ b ≠ 0 then -(-(b.natAbs : Int) / (e.natAbs : Int)) else 0
def turnOf (b e c : Int) : Int := if e = 0 ∨ c < 3 then c - 1 else min (max (turnSpot b e) 0) (c - 1)
theorem mul_nn {a b : Int} (h : 0 ≤ a) (k : 0 ≤ b) : 0 ≤ a * b := Int.mul_nonneg h k
theorem ceil_spec {x y i : Int} (hy : 0 < y) : (i < -(-x / y) → y * i < x) ∧ (-(-x / y) ≤ i → x ≤ y * i) := by
  have h1 := Int.mul_ediv_add_emod (-x) y
  have h2 := Int.emod_nonneg (-x) (show y ≠ 0 by omega)
  have h3 := Int.emod_lt_of_pos (-x) hy
  generalize hq : -x / y = q at *
  generalize hr : -x % y = r at *
  constructor
  · intro h
    have : y * i ≤ y * (-q - 1) := Int.mul_le_mul_of_nonneg_left (by omega) (by omega)
    rw [Int.mul_sub, Int.mul_neg] at this
    omega
  · intro h
    have : y * (-q) ≤ y * i := Int.mul_le_mul_of_nonneg_left (by omega) (by omega)
    rw [Int.mul_neg] at this
    omega
theorem turn_segs {b e c : Int} (hc : 1 ≤ c) : 0 ≤ turnOf b e c ∧ turnOf b e c ≤ c - 1 ∧ Seg b e 0 (turnOf b e c) ∧ Seg b e (turnOf b e c) (c - 1) := by
  unfold turnOf
  by_cases h : e = 0 ∨ c < 3
  · rw [if_pos h]
    refine ⟨by omega, Int.le_refl _, ?_, .inl fun i h1 h2 => absurd h1 (by omega)⟩
    by_cases hb : 0 ≤ b
    · refine .inl fun i h1 h2 => ?_
      rcases h with h | h
      · subst h; rw [Int.zero_mul]; omega
      · have : i = 0 := by omega
        subst this; rw [Int.mul_zero]; omega
    · refine .inr fun i h1 h2 => ?_
      rcases h with h | h
      · subst h; rw [Int.zero_mul]; omega
      · have : i = 0 := by omega
        subst this; rw [Int.mul_zero]; omega
  · rw [if_neg h]
    have he : e ≠ 0 := fun z => h (.inl z)
    unfold turnSpot
    by_cases hs : (decide (0 < b) != decide (0 < e)) = true ∧ b ≠ 0
    · rw [if_pos hs]
      have hbe : (0 < b ∧ e < 0) ∨ (b < 0 ∧ 0 < e) := by
        obtain ⟨z, nz⟩ := hs
        by_cases p : 0 < b
        · by_cases q : 0 < e
          · simp [p, q] at z
          · exact .inl ⟨p, by omega⟩
        · by_cases q : 0 < e
          · exact .inr ⟨by omega, q⟩
          · simp [p, q] at z
      have ey : (0 : Int) < (e.natAbs : Int) := by omega
      have hx := fun i => ceil_spec (x := (b.natAbs : Int)) (i := i) ey
      generalize hsp : -(-(b.natAbs : Int) / (e.natAbs : Int)) = sp at *
      rcases hbe with ⟨hb, hn⟩ | ⟨hb, hn⟩
      · have e1 : (b.natAbs : Int) = b := by omega
        have e2 : (e.natAbs : Int) = -e := by omega
        rw [e1, e2] at hx
        refine ⟨by omega, by omega, .inl fun i h1 h2 => ?_, .inr fun i h1 h2 => ?_⟩
        · have := (hx i).1 (by omega)
          rw [Int.neg_mul] at this
          omega
        · have := (hx i).2 (by omega)
          rw [Int.neg_mul] at this
          omega
      · have e1 : (b.natAbs : Int) = -b := by omega
        have e2 : (e.natAbs : Int) = e := by omega
        rw [e1, e2] at hx
        refine ⟨by omega, by omega, .inr fun i h1 h2 => ?_, .inl fun i h1 h2 => ?_⟩
        · have := (hx i).1 (by omega)
          omega
        · have := (hx i).2 (by omega)
          omega
    · rw [if_neg hs]
      have ez : min (max (0 : Int) 0) (c - 1) = 0 := by omega
      rw [ez]
      refine ⟨by omega, by omega, .inl fun i h1 h2 => absurd h1 (by omega), ?_⟩
      by_cases q : 0 < e
      · refine .inl fun i h1 h2 => ?_
        have : 0 ≤ e * i := mul_nn (by omega) h1
        have : 0 ≤ b := by
          by_cases p : 0 < b
          · omega
          · by_cases z : b = 0
            · omega
            · exact absurd ⟨by simp [p, q], z⟩ hs
        omega
      · refine .inr fun i h1 h2 => ?_
        have : 0 ≤ (-e) * i := mul_nn (by omega) h1
        rw [Int.neg_mul] at this
        have : b ≤ 0 := by
          by_cases p : 0 < b
          · exact absurd ⟨by simp [p, q], by omega⟩ hs
          · omega
        omega
/-! ### the first index beyond the bounds -/
/-- what the search tells -/
def Such (lo hi r : Int) (f : Int → Bool) : Prop := lo ≤ r ∧ r ≤ hi ∧ (∀ i, lo ≤ i → i < r → f i = false) ∧ (r < hi → f r = true)
theorem beyond_order {v : Nat → Int} {b e c : Int} (hv : ∀ i : Nat, v (i + 1) = v i + (b + e * i)) (hc : 1 ≤ c) : let t := turnOf b e c
    let f : Int → Bool := fun i => outV (v i.toNat)
    (f 0 = true → IsL c (fun i => outV (v i)) 0) ∧ (f 0 = false → f t = true → (∀ i j, 0 ≤ i → i ≤ j → j < t → f i = true → f j = true) ∧ ∀ r, Such 0 t r f → IsL c (fun i => outV (v i)) r) ∧
    (f 0 = false → f t = false → f (c - 1) = true → (∀ i j, t ≤ i → i ≤ j → j < c → f i = true → f j = true) ∧ ∀ r, Such t c r f → IsL c (fun i => outV (v i)) r) ∧
    (f 0 = false → f t = false → f (c - 1) = false → IsL c (fun i => outV (v i)) c) := by
  intro t f
  obtain ⟨t0, t1, s1, s2⟩ := turn_segs (b := b) (e := e) hc
  have t0' : 0 ≤ t := t0
  have t1' : t ≤ c - 1 := t1
  obtain ⟨tn, htn⟩ := Int.eq_ofNat_of_zero_le t0'
  obtain ⟨cn, hcn⟩ := Int.eq_ofNat_of_zero_le (show 0 ≤ c - 1 by omega)
  have s1' : Seg b e ((0 : Nat) : Int) (tn : Int) := by rw [← htn]; exact s1
  have s2' : Seg b e (tn : Int) (cn : Int) := by rw [← htn, ← hcn]; exact s2
  have ftn : f t = outV (v tn) := by show outV (v t.toNat) = _; rw [htn]; rfl
  have fcn : f (c - 1) = outV (v cn) := by show outV (v (c - 1).toNat) = _; rw [hcn]; rfl
  have f0 : f 0 = outV (v 0) := rfl
  rw [ftn, fcn, f0]
  refine ⟨fun h => ⟨Int.le_refl _, by omega, fun i hi => absurd hi (by omega), fun _ => h⟩, fun h0 ht => ⟨fun i j h1 h2 h3 o => ?_, fun r hr => ?_⟩, fun h0 ht hl => ⟨fun i j h1 h2 h3 o => ?_, fun r hr => ?_⟩, fun h0 ht hl => ⟨by omega, Int.le_refl _, fun i hi => ?_, fun z => absurd z (by omega)⟩⟩
  · exact seg_out hv s1' h0 i.toNat j.toNat (by omega) (by omega) (by omega) o
  · obtain ⟨r1, r2, r3, r4⟩ := hr
    refine ⟨r1, by omega, fun i hi => ?_, fun _ => ?_⟩
    · have := r3 i (by omega) hi
      exact this
    · by_cases z : r < t
      · exact r4 z
      · have : r.toNat = tn := by omega
        show outV (v r.toNat) = true
        rw [this]; exact ht
  · exact seg_out hv s2' ht i.toNat j.toNat (by omega) (by omega) (by omega) o
  · obtain ⟨r1, r2, r3, r4⟩ := hr
    refine ⟨by omega, r2, fun i hi => ?_, fun z => r4 z⟩
    by_cases z : (i : Int) < t
    · exact seg_in hv s1' h0 ht i (Nat.zero_le _) (by omega)
    · have := r3 i (by omega) hi
      exact this
  · by_cases z : (i : Int) < t
    · exact seg_in hv s1' h0 ht i (Nat.zero_le _) (by omega)
    · exact seg_in hv s2' ht hl i (by omega) (by omega)
end K26
set_option Elab.async false
set_option maxRecDepth 100000
set_option maxHeartbeats 4000000
set_option linter.all false
set_option autoImplicit false
/-! pieces: numbers by index -/
namespace K26
variable [DW.Tb]
open PySem PySem.Spec PyProof.Rows L2 DW
theorem getD_map (ns : List Int) (i : Nat) (h : i < ns.length) : (ns.map D.int)[i]? = some (.int (ns.getD i 0)) := by
  rw [List.getElem?_map, List.getElem?_eq_getElem h]
  simp [List.getD, List.getElem?_eq_getElem h]
theorem cutD_take {l : List D} {m : Nat} : DW.cutD l none (some (m : Int)) = l.take m := by
  unfold DW.cutD
  have e1 : HT.sIx l.length 0 none = 0 := rfl
  rw [e1, HT.sIx_nat, List.drop_zero, Nat.sub_zero]
  by_cases h : m ≤ l.length
  · rw [Nat.min_eq_left h]
  · rw [Nat.min_eq_right (by omega), List.take_length, List.take_of_length_le (by omega)]
theorem getD_bnd {ns : List Int} {B : Int} (hB : 0 ≤ B) (h : ∀ z ∈ ns, -B ≤ z ∧ z ≤ B) (i : Nat) : -B ≤ ns.getD i 0 ∧ ns.getD i 0 ≤ B := by
  by_cases q : i < ns.length
  · rw [List.getD_eq_getElem?_getD, List.getElem?_eq_getElem q]
    exact h _ (List.getElem_mem q)
  · rw [List.getD_eq_getElem?_getD, List.getElem?_eq_none (by omega)]
    show -B ≤ 0 ∧ 0 ≤ B
    omega
section
variable {K : PySem.W.Frag} {w : Option Addr} {n : Nat} {k : Kn} {es : List D} {C : Addr}
theorem atI_ints {ns : List Int} {i : Int} (h1 : 0 ≤ i) (h2 : i < ns.length) : atI (ns.map D.int) i = some (.int (ns.getD i.toNat 0)) := by
  obtain ⟨j, rfl⟩ := Int.eq_ofNat_of_zero_le h1
  exact atI_nat (getD_map ns j (by omega))
theorem rd_ixNs {nd : D} {ns : List Int} {i : Int} (hd : IsNs nd ns) (h : (0 ≤ i ∧ i < ns.length) ∧ k (.int (ns.getD i.toNat 0)) n) : RD K w (rIx K) nd (.int i) n k := by
  rcases hd with rfl | rfl
  · exact rd_ixL (atI_ints h.1.1 h.1.2) h.2
  · exact rd_ixT (atI_ints h.1.1 h.1.2) h.2
def padL (ns : List Int) : List Int := [ns.getD 0 0, ns.getD 1 0, ns.getD 2 0]
theorem pad_eq {ns : List Int} (h : 1 ≤ ns.length) : (ns ++ [0, 0]).take 3 = padL ns := by
  match ns, h with
  | [a], _ => rfl
  | [a, b], _ => rfl
  | a :: b :: c :: r, _ => rfl
abbrev padSp : DSpW := fun w es n k => ∃ nd ns, es = [nd] ∧ IsNs nd ns ∧ 1 ≤ ns.length ∧ ns.length ≤ 1000 ∧ k (.lst ((padL ns).map .int)) n
abbrev pairsSp : DSpW := fun w es n k => ∃ i : Int, es = [.int i] ∧ -(2 ^ 60) ≤ i ∧ i ≤ 2 ^ 60 ∧ k (.int (pairs i)) n
structure Small (ns : List Int) : Prop where
  n1 : 1 ≤ ns.length
  n2 : ns.length ≤ 1000
  nb : ∀ z ∈ ns, -(2 ^ 60) ≤ z ∧ z ≤ 2 ^ 60
abbrev naSp : DSpW := fun w es n k => ∃ per nd ns i, es = [.str (kindW per), nd, .int i] ∧ IsNs nd ns ∧ Small ns ∧ 0 ≤ i ∧ i ≤ 2 ^ 60 ∧ k (.int (numAt per ns i)) n
theorem w_padded (h : padSp w es n k) : WpS K w (r_padded K) (dstart ["numbers"] es) n { nx := fun _ n' => kup k .non n', rt := kup k } := by
  obtain ⟨nd, ns, rfl, hd, h1, h2, hk⟩ := h
  have ho := hd.own
  unfold r_padded
  repeat' (first
    | exact absurd ‹false = true› (by decide)
    | exact absurd ‹true = false› (by decide)
    | (guard_target =~ WpE _ _ _ _ _ _; first | with_reducible refine e_slL ?_ | ((with_reducible refine e_varX ?_); refine ⟨_, rfl, ho, ?_⟩))
    | with_reducible refine a_star ?_
    | walk_at "way by rule"
    | walk_at "way by form"
    | fail)
  refine ⟨ns.map .int, hd, ?_⟩
  repeat' (first
    | exact absurd ‹false = true› (by decide)
    | exact absurd ‹true = false› (by decide)
    | walk_at "way by rule"
    | with_reducible refine And.intro (by rw [List.length_append, List.length_map]; simp only [List.length_cons, List.length_nil]; omega) ?_
    | walk_at "way by form"
    | fail)
  have e : DW.cutD (ns.map D.int ++ [.int 0, .int 0]) none (some 3) = (padL ns).map .int := by
    rw [show (some (3 : Int)) = some ((3 : Nat) : Int) from rfl, cutD_take, ← pad_eq h1, List.map_take, List.map_append]
    rfl
  rw [e]
  exact kup_of hk
theorem w_pairs_of (h : pairsSp w es n k) : WpS K w (r_pairs_of K) (dstart ["many"] es) n { nx := fun _ n' => kup k .non n', rt := kup k } := by
  obtain ⟨i, rfl, h1, h2, hk⟩ := h
  unfold r_pairs_of
  repeat' (first
    | exact absurd ‹false = true› (by decide)
    | exact absurd ‹true = false› (by decide)
    | walk_at "way by rule"
    | walk_at "way by form"
    | fail)
  all_goals exact kup_of hk
theorem kindW_eq {per : Bool} : decide (kindW per = "period") = per := by cases per <;> decide +kernel
theorem w_number_at (h : naSp w es n k) : WpS K w (r_number_at K (toSp K padSp) (toSp K pairsSp)) (dstart ["kind", "numbers", "index", "first", "more", "bend"] es) n { nx := fun _ n' => kup k .non n', rt := kup k } := by
  obtain ⟨per, nd, ns, i, rfl, hd, ⟨s1, s2, s3⟩, h1, h2, hk⟩ := h
  have ho := hd.own
  have lenR : ∀ {k : Kn} {n : Nat}, k (.int (ns.length : Int)) n → RC K w (rLenU K) [nd] n k := fun {k n} hk => by
    rcases hd with rfl | rfl
    · exact rc_lenL (by rw [List.length_map]; exact hk)
    · exact rc_lenT (by rw [List.length_map]; exact hk)
  unfold r_number_at
  repeat' (first
    | exact absurd ‹false = true› (by decide)
    | exact absurd ‹true = false› (by decide)
    | with_reducible refine lenR ?_
    | (refine rd_ixNs hd ⟨⟨Int.emod_nonneg _ (by omega), Int.emod_lt_of_pos _ (by omega)⟩, ?_⟩)
    | ((with_reducible refine e_varX ?_); refine ⟨_, rfl, ho, ?_⟩)
    | walk_at "way by rule"
    | refine ⟨_, _, rfl, hd, s1, s2, ?_⟩
    | refine ⟨_, _, g_lst (gs_cons g_name (gs_cons g_name (gs_cons g_name gs_nil))) rfl, ?_⟩
    | refine ⟨_, rfl, by omega, by omega, ?_⟩
    | walk_at "way by form"
    | fail)
  · rename_i q
    have q : per = true := by rw [← kindW_eq (per := per)]; exact q
    subst q
    exact kup_of hk
  · rename_i q
    have q : per = false := by rw [← kindW_eq (per := per)]; exact q
    subst q
    have b := getD_bnd (B := 2 ^ 60) (by decide) s3 2
    refine ⟨.inl ⟨by omega, by omega⟩, ?_⟩
    repeat' (first
    | exact absurd ‹false = true› (by decide)
    | exact absurd ‹true = false› (by decide)
    | walk_at "way by rule"
    | walk_at "way by form"
    | fail)
    exact kup_of hk
end
end K26
set_option Elab.async false
set_option maxRecDepth 100000
set_option maxHeartbeats 4000000
set_option linter.all false
set_option autoImplicit false
/-! pieces: rows of good pieces pass the checks -/
namespace K26
variable [DW.Tb]
open PySem PySem.Spec PyProof.Rows L2 DW
structure Good (p : Pc) : Prop where
  c1 : 1 ≤ p.c
  c2 : p.c ≤ 2 ^ 41
  s0 : p.c = 1 → p.s = 0
  s1 : 1 < p.c → 1 ≤ p.s
  m0 : 0 ≤ p.m
  last : p.m + p.s * (p.c - 1) ≤ 2 ^ 40 - 1
  small : Small p.ns
  n2 : (p.ns.length : Int) ≤ p.c
  n3 : p.ns.length ≤ if p.per = true then 8 else 3
  nz : p.per = false → p.ns.length = 1 ∨ p.ns.getD (p.ns.length - 1) 0 ≠ 0
  vb : ∀ i, 0 ≤ i → i < p.c → -(2 ^ 40) ≤ numAt p.per p.ns i ∧ numAt p.per p.ns i ≤ 2 ^ 40
abbrev turnSp : DSpW := fun w es n k => ∃ nd ns c, es = [nd, .int c] ∧ IsNs nd ns ∧ Small ns ∧ 1 ≤ c ∧ c ≤ 2 ^ 41 ∧ ∀ t, 0 ≤ t → t ≤ c - 1 → k (.int t) n
abbrev outSp : DSpW := fun w es n k => ∃ per nd ns i, es = [.int i, .str (kindW per), nd, .int (0 - 1099511627776), .int 1099511627776] ∧ IsNs nd ns ∧ Small ns ∧ 0 ≤ i ∧ i ≤ 2 ^ 60 ∧ -(2 ^ 40) ≤ numAt per ns i ∧ numAt per ns i ≤ 2 ^ 40 ∧ k (.bl false) n
abbrev beyondSp : DSpW := fun w es n k => ∃ per nd ns c, es = [.str (kindW per), nd, .int c, .int (0 - 1099511627776), .int 1099511627776] ∧ IsNs nd ns ∧ Small ns ∧ 1 ≤ c ∧ c ≤ 2 ^ 41 ∧ (ns.length : Int) ≤ c ∧ (∀ i, 0 ≤ i → i < c → -(2 ^ 40) ≤ numAt per ns i ∧ numAt per ns i ≤ 2 ^ 40) ∧ k (.int c) n
section
variable {K : PySem.W.Frag} {w : Option Addr} {n : Nat} {k : Kn} {es : List D} {C : Addr}
theorem w_turn_of (h : turnSp w es n k) : WpS K w (r_turn_of K (toSp K padSp)) (dstart ["numbers", "count", "first", "more", "bend", "spot"] es) n { nx := fun _ n' => kup k .non n', rt := kup k } := by
  obtain ⟨nd, ns, c, rfl, hd, ⟨s1, s2, s3⟩, c1, c2, hk⟩ := h
  have ho := hd.own
  have b1 := getD_bnd (B := 2 ^ 60) (by decide) s3 1
  have b2 := getD_bnd (B := 2 ^ 60) (by decide) s3 2
  unfold r_turn_of
  repeat' (first
    | exact absurd ‹false = true› (by decide)
    | exact absurd ‹true = false› (by decide)
    | ((with_reducible refine e_varX ?_); refine ⟨_, rfl, ho, ?_⟩)
    | with_reducible refine rd_neB ?_
    | walk_at "way by rule"
    | refine ⟨_, _, rfl, hd, s1, s2, ?_⟩
    | refine ⟨_, _, g_lst (gs_cons g_name (gs_cons g_name (gs_cons g_name gs_nil))) rfl, ?_⟩
    | (with_reducible refine And.intro (by simp only [decide_eq_true_eq, decide_eq_false_iff_not] at *; omega) ?_)
    | walk_at "way by form"
    | fail)
  all_goals (refine kup_of (hk _ ?_ ?_) <;> omega)
theorem w_is_out (h : outSp w es n k) : WpS K w (r_first_beyond_is_out K (toSp K naSp)) (dstart ["at", "kind", "numbers", "low", "high"] es) n { nx := fun _ n' => kup k .non n', rt := kup k } := by
  obtain ⟨per, nd, ns, i, rfl, hd, hs, i1, i2, v1, v2, hk⟩ := h
  have ho := hd.own
  unfold r_first_beyond_is_out
  repeat' (first
    | exact absurd ‹false = true› (by decide)
    | exact absurd ‹true = false› (by decide)
    | ((with_reducible refine e_varX ?_); refine ⟨_, rfl, ho, ?_⟩)
    | walk_at "way by rule"
    | refine ⟨_, _, _, _, rfl, hd, hs, i1, i2, ?_⟩
    | walk_at "way by form"
    | fail)
  · rw [show (!decide (numAt per ns i ≤ 1099511627776)) = false by rw [decide_eq_true (by omega)]; rfl]
    exact kup_of hk
  · rename_i q
    exact absurd (of_decide_eq_false q) (by omega)
theorem w_first_beyond {P : Addr} {mk : Addr → NdefX.NF} (hP : Tb.tab P = true) (hq : ∀ c', (mk c').c = c') {G : Addr → List (Option V) → List V → Hp → VK → Prop} (h : beyondSp w es n k) :
    WpS K w (r_first_beyond K mk (toSpNL K 4 outSp) G (toSp K turnSp)) (dstart ["kind", "numbers", "count", "low", "high", "found", "is_out", "turn", "at"] es) n { nx := fun _ n' => kup k .non n', rt := kup k } := by
  obtain ⟨per, nd, ns, c, rfl, hd, hs, c1, c2, hn, hv, hk⟩ := h
  obtain ⟨s1, s2, s3⟩ := id hs
  have ho := hd.own
  have lenR : ∀ {k : Kn} {n : Nat}, k (.int (ns.length : Int)) n → RC K w (rLenU K) [nd] n k := fun {k n} hk => by
    rcases hd with rfl | rfl
    · exact rc_lenL (by rw [List.length_map]; exact hk)
    · exact rc_lenT (by rw [List.length_map]; exact hk)
  have cap : ∀ d ∈ [D.str (kindW per), nd, .int (0 - 1099511627776), .int 1099511627776], isOwn d = false := fun d hd' => by
    simp only [List.mem_cons, List.not_mem_nil, or_false] at hd'
    rcases hd' with rfl | rfl | rfl | rfl
    · rfl
    · exact ho
    · rfl
    · rfl
  have call : ∀ {k : Kn} {n : Nat} {i : Int}, 0 ≤ i → i < c → k (.bl false) n → outSp w ([.int i] ++ [D.str (kindW per), nd, .int (0 - 1099511627776), .int 1099511627776]) n k := fun {k n i} h1 h2 hk =>
    ⟨per, nd, ns, i, rfl, hd, hs, h1, by omega, (hv i h1 h2).1, (hv i h1 h2).2, hk⟩
  unfold r_first_beyond
  refine s_seq (s_if ?_)
  repeat' (first
    | exact absurd ‹false = true› (by decide)
    | exact absurd ‹true = false› (by decide)
    | walk_at "way by rule"
    | walk_at "way by form"
    | fail)
  · rename_i q
    have q : per = true := by rw [← kindW_eq (per := per)]; exact q
    subst q
    have hz : ∀ i : Int, 0 ≤ i → i < min (ns.length : Int) c → -(2 ^ 40) ≤ ns.getD i.toNat 0 ∧ ns.getD i.toNat 0 ≤ 2 ^ 40 := fun i h1 h2 => by
      have := hv i h1 (by omega)
      unfold numAt at this
      rw [if_pos rfl, Int.emod_eq_of_lt h1 (by omega)] at this
      exact this
    repeat' (first
    | exact absurd ‹false = true› (by decide)
    | exact absurd ‹true = false› (by decide)
    | with_reducible refine lenR ?_
    | (guard_target =~ WpE _ _ _ _ _ _; first | ((with_reducible refine e_varX ?_); refine ⟨_, rfl, ho, ?_⟩) | with_reducible refine e_lcIX ⟨fun _ => false, fun z => .int z, ?_⟩)
    | walk_at "way by rule"
    | walk_at "way by form"
    | fail)
    refine ⟨(List.range (min (ns.length : Int) c).toNat).map fun i => (0 : Int) + (i : Nat), by rw [List.map_map]; rfl, by rw [List.length_map, List.length_range]; omega, fun z hz' => ?_, ?_⟩
    · obtain ⟨i, hi, rfl⟩ := List.mem_map.mp hz'
      have hi := List.mem_range.mp hi
      have b := hz (0 + (i : Int)) (by omega) (by omega)
      repeat' (first
    | exact absurd ‹false = true› (by decide)
    | exact absurd ‹true = false› (by decide)
    | (refine rd_ixNs hd ⟨⟨by omega, by omega⟩, ?_⟩)
    | exact absurd (of_decide_eq_false ‹decide (0 - 1099511627776 ≤ ns.getD (0 + (i : Int)).toNat 0) = false›) (by omega)
    | ((with_reducible refine e_varX ?_); refine ⟨_, rfl, ho, ?_⟩)
    | walk_at "way by rule"
    | walk_at "way by form"
    | fail)
      exact ⟨by rw [decide_eq_true (by omega)]; rfl, rfl, fun z => absurd z (by rw [decide_eq_true (by omega)]; decide)⟩
    have e : (((List.range (min (ns.length : Int) c).toNat).map fun i => (0 : Int) + (i : Nat)).filter fun _ => false) = [] := List.filter_eq_nil_iff.mpr fun _ _ => by simp
    rw [e]
    repeat' (first
    | exact absurd ‹false = true› (by decide)
    | exact absurd ‹true = false› (by decide)
    | exact absurd rfl ‹([] : List Int) ≠ []›
    | walk_at "way by rule"
    | walk_at "way by form"
    | fail)
    all_goals first
      | exact kup_of hk
      | trace_state
  · rename_i q
    have q : per = false := by rw [← kindW_eq (per := per)]; exact q
    refine s_ndef hP hq fun c' => ?_
    repeat' (first
    | exact absurd ‹false = true› (by decide)
    | exact absurd ‹true = false› (by decide)
    | (refine call (by omega) (by omega) ?_)
    | (guard_target =~ WpE _ _ _ _ _ _; first | ((with_reducible refine e_varX ?_); refine ⟨_, rfl, ho, ?_⟩) | (refine e_callNL rfl (cds := [D.str (kindW per), nd, .int (0 - 1099511627776), .int 1099511627776]) (c' := c') rfl rfl cap ?_))
    | walk_at "way by rule"
    | refine ⟨_, _, _, rfl, hd, hs, c1, c2, fun t t1 t2 => ?_⟩
    | walk_at "way by form"
    | fail)
    all_goals exact kup_of hk
end
end K26
set_option Elab.async false
set_option maxRecDepth 100000
set_option maxHeartbeats 4000000
set_option linter.all false
set_option autoImplicit false
/-! pieces: rows of good pieces pass the checks -/
namespace K26
variable [DW.Tb]
open PySem PySem.Spec PyProof.Rows L2 DW
def pcO (C : Addr) (p : Pc) : D := pieceD C p.m p.s p.c p.per p.ns
def lastM (p : Pc) : Int := p.m + p.s * (p.c - 1)
structure Row (ps : List Pc) : Prop where
  len : ps.length ≤ 100000
  good : ∀ p ∈ ps, Good p
  inc : ∀ i p q, ps[i]? = some p → ps[i + 1]? = some q → lastM p < q.m
abbrev momSp (C : Addr) : DSpW := fun w es n k => ∃ m s c per ns i, es = [pieceD C m s c per ns, .int i] ∧ -(2 ^ 60) ≤ i ∧ i ≤ 2 ^ 60 ∧ k (.int (m + s * i)) n
abbrev lastSp (C : Addr) : DSpW := fun w es n k => ∃ p, es = [pcO C p] ∧ Good p ∧ k (.int (lastM p)) n
abbrev badmSp (C : Addr) : DSpW := fun w es n k => ∃ p, es = [pcO C p] ∧ Good p ∧ k (.int p.c) n
abbrev wrongSp (C : Addr) : DSpW := fun w es n k => ∃ p a, es = [pcO C p, a] ∧ Good p ∧ (a = .non ∨ ∃ z, a = .int z ∧ z < p.m) ∧ k (.int p.c) n
def IsPs (C : Addr) (d : D) (ps : List Pc) : Prop := d = .lst (ps.map (pcO C)) ∨ d = .tup (ps.map (pcO C))
theorem IsPs.own {C : Addr} {d : D} {ps : List Pc} (h : IsPs C d ps) : isOwn d = false := by rcases h with rfl | rfl <;> rfl
abbrev fwSp (C : Addr) : DSpW := fun w es n k => ∃ d ps, es = [d] ∧ IsPs C d ps ∧ Row ps ∧ k .non n
abbrev pieceSp (C : Addr) : DSpW := fun w es n k => ∃ p, es = [pcO C p] ∧ Good p ∧ k (.bl true) n
abbrev piecesSp (C : Addr) : DSpW := fun w es n k => ∃ d ps, es = [d] ∧ IsPs C d ps ∧ Row ps ∧ k (.bl true) n
abbrev needPSp (C : Addr) : DSpW := fun w es n k => ∃ x d ps, es = [.str x, d] ∧ IsPs C d ps ∧ Row ps ∧ k .non n
theorem atI_last {ns : List Int} (h : 1 ≤ ns.length) : atI (ns.map D.int) (-1) = some (.int (ns.getD (ns.length - 1) 0)) := by
  unfold atI
  have e : ixN (ns.map D.int).length (-1) = some (ns.length - 1) := by
    rw [List.length_map]
    unfold ixN
    rw [if_neg (by omega), if_pos (by omega)]
    congr 1
    omega
  rw [e]
  exact getD_map ns (ns.length - 1) (by omega)
section
variable {K : PySem.W.Frag} {w : Option Addr} {n : Nat} {k : Kn} {es : List D} {C : Addr}
theorem w_moment_at (T : ClT K C XN) (h : momSp C w es n k) : WpS K w (r_moment_at K) (dstart ["piece", "index"] es) n { nx := fun _ n' => kup k .non n', rt := kup k } := by
  obtain ⟨m, s, c, per, ns, i, rfl, h1, h2, hk⟩ := h
  unfold r_moment_at
  repeat' (first
    | exact absurd ‹false = true› (by decide)
    | exact absurd ‹true = false› (by decide)
    | ((with_reducible refine e_fldX ?_); refine ⟨_, _, _, rfl, T, by decide +kernel, _, rfl, ?_⟩)
    | walk_at "way by rule"
    | walk_at "way by form"
    | fail)
  all_goals exact kup_of hk
theorem w_last_moment (T : ClT K C XN) (h : lastSp C w es n k) : WpS K w (r_last_moment K (toSp K (momSp C))) (dstart ["piece"] es) n { nx := fun _ n' => kup k .non n', rt := kup k } := by
  obtain ⟨p, rfl, g, hk⟩ := h
  have c1 := g.c1
  have c2 := g.c2
  unfold r_last_moment
  repeat' (first
    | exact absurd ‹false = true› (by decide)
    | exact absurd ‹true = false› (by decide)
    | ((with_reducible refine e_fldX ?_); refine ⟨_, _, _, rfl, T, by decide +kernel, _, rfl, ?_⟩)
    | walk_at "way by rule"
    | refine ⟨_, _, _, _, _, _, rfl, by omega, by omega, ?_⟩
    | walk_at "way by form"
    | fail)
  all_goals exact kup_of hk
theorem w_first_bad_moment (T : ClT K C XN) (h : badmSp C w es n k) : WpS K w (r_first_bad_moment K) (dstart ["piece", "room"] es) n { nx := fun _ n' => kup k .non n', rt := kup k } := by
  obtain ⟨p, rfl, g, hk⟩ := h
  obtain ⟨c1, c2, s0, s1, m0, hl, _, _, _, _, _⟩ := g
  have hs : 1 < p.c → p.s ≤ 2 ^ 40 ∧ p.c - 1 ≤ (1099511627775 - p.m) / p.s := fun q => by
    have s1 := s1 q
    have e1 : p.s * 1 ≤ p.s * (p.c - 1) := Int.mul_le_mul_of_nonneg_left (by omega) (by omega)
    refine ⟨by omega, (Int.le_ediv_iff_mul_le (by omega)).mpr ?_⟩
    rw [Int.mul_comm]
    omega
  have hm : p.m ≤ 1099511627775 := by
    by_cases q : 1 < p.c
    · have s1 := s1 q
      have e1 : 0 ≤ p.s * (p.c - 1) := Int.mul_nonneg (by omega) (by omega)
      omega
    · have q : p.c = 1 := by omega
      rw [s0 q] at hl
      omega
  unfold r_first_bad_moment
  repeat' (first
    | exact absurd ‹false = true› (by decide)
    | exact absurd ‹true = false› (by decide)
    | ((with_reducible refine e_fldX ?_); refine ⟨_, _, _, rfl, T, by decide +kernel, _, rfl, ?_⟩)
    | walk_at "way by rule"
    | (with_reducible refine And.intro (by have q := of_decide_eq_true ‹decide (1 < p.c) = true›; have := hs q; have := s1 q; omega) ?_)
    | walk_at "way by form"
    | fail)
  all_goals simp only [Bool.not_eq_true', Bool.not_eq_false', Bool.not_true, Bool.not_false, decide_eq_true_eq, decide_eq_false_iff_not] at *
  all_goals by_cases q : 1 < p.c
  all_goals first
    | (exfalso; omega)
    | (exfalso; have h2 := s1 q; omega)
    | (have h1 := hs q; have h2 := s1 q; rw [show min p.c ((1099511627775 - p.m) / p.s + 1) = p.c by omega]; exact kup_of hk)
    | (rw [show min p.c 1 = p.c by omega]; exact kup_of hk)
theorem w_wrong_in (T : ClT K C XN) (h : wrongSp C w es n k) : WpS K w (r_wrong_in K (toSp K beyondSp) (toSp K (badmSp C))) (dstart ["piece", "ahead", "beyond"] es) n { nx := fun _ n' => kup k .non n', rt := kup k } := by
  obtain ⟨p, a, rfl, g, ha, hk⟩ := h
  unfold r_wrong_in
  rcases ha with rfl | ⟨z, rfl, hz⟩
  · repeat' (first
    | exact absurd ‹false = true› (by decide)
    | exact absurd ‹true = false› (by decide)
    | ((with_reducible refine e_fldX ?_); refine ⟨_, _, _, rfl, T, by decide +kernel, _, rfl, ?_⟩)
    | walk_at "way by rule"
    | refine ⟨_, _, _, _, rfl, .inr rfl, g.small, g.c1, g.c2, g.n2, g.vb, ?_⟩
    | refine ⟨p, rfl, g, ?_⟩
    | walk_at "way by form"
    | fail)
    all_goals (refine kup_of ?_; simpa using hk)
  · repeat' (first
    | exact absurd ‹false = true› (by decide)
    | exact absurd ‹true = false› (by decide)
    | exact absurd (of_decide_eq_true ‹decide (p.m ≤ z) = true›) (by omega)
    | ((with_reducible refine e_fldX ?_); refine ⟨_, _, _, rfl, T, by decide +kernel, _, rfl, ?_⟩)
    | walk_at "way by rule"
    | refine ⟨_, _, _, _, rfl, .inr rfl, g.small, g.c1, g.c2, g.n2, g.vb, ?_⟩
    | refine ⟨p, rfl, g, ?_⟩
    | walk_at "way by form"
    | fail)
    all_goals (refine kup_of ?_; simpa using hk)
theorem w_first_wrong (T : ClT K C XN) (h : fwSp C w es n k) : WpS K w (r_first_wrong K (toSp K (wrongSp C)) (toSp K (lastSp C))) (dstart ["pieces", "seen", "ahead", "piece", "spot"] es) n { nx := fun _ n' => kup k .non n', rt := kup k } := by
  obtain ⟨d, ps, rfl, hd, R, hk⟩ := h
  have ho := hd.own
  unfold r_first_wrong
  refine s_mid (mid := fun ds' n' => n' = n ∧ ds' = [some d, some (.int 0), some .non, none, none]) ?_ ?_
  · repeat' (first
    | exact absurd ‹false = true› (by decide)
    | exact absurd ‹true = false› (by decide)
    | walk_at "way by rule"
    | walk_at "way by form"
    | fail)
    all_goals rfl
  rintro ds' n' ⟨rfl, rfl⟩
  have iter : ∀ {k : List D → Nat → Prop} {n : Nat}, k (ps.map (pcO C)) n → WpI K w (iSeq K (tVar 0)) [some d, some (.int 0), some .non, none, none] n k := fun {k n} hk => by
    rcases hd with rfl | rfl
    · exact i_listV ⟨_, rfl, hk⟩
    · exact i_tupV ⟨_, rfl, hk⟩
  refine s_mid (mid := fun ds' n'' => n'' = n') (s_for (iter ?_)) ?_
  · refine ⟨fun i ds' n'' => n'' = n' ∧ ∃ (z : Int) (a : D) (v3 v4 : Option D), ds' = [some d, some (.int z), some a, v3, v4] ∧ ((i = 0 ∧ a = .non) ∨ ∃ j p, i = j + 1 ∧ ps[j]? = some p ∧ a = .int (lastM p)), ⟨rfl, 0, .non, none, none, rfl, .inl ⟨rfl, rfl⟩⟩, ?_, ?_⟩
    · rintro i x ds' n'' hx ⟨rfl, z, a, v3, v4, rfl, ha⟩
      rw [List.getElem?_map] at hx
      obtain ⟨p, hp, rfl⟩ := Option.map_eq_some_iff.mp hx
      have g := R.good p (List.mem_of_getElem? hp)
      have ha' : a = .non ∨ ∃ z, a = .int z ∧ z < p.m := by
        rcases ha with ⟨_, e⟩ | ⟨j, q, rfl, hq, e⟩
        · exact .inl e
        · exact .inr ⟨_, e, R.inc j q p hq hp⟩
      have ao : isOwn a = false := by rcases ha' with rfl | ⟨z, rfl, _⟩ <;> rfl
      refine ⟨_, _, g_name rfl, ?_⟩
      repeat' (first
    | exact absurd ‹false = true› (by decide)
    | exact absurd ‹true = false› (by decide)
    | exact absurd (of_decide_eq_true ‹decide (p.c < p.c) = true›) (by omega)
    | (guard_target =~ WpE _ _ _ _ _ _; first | ((with_reducible refine e_varX ?_); refine ⟨_, rfl, ao, ?_⟩) | ((with_reducible refine e_fldX ?_); refine ⟨_, _, _, rfl, T, by decide +kernel, _, rfl, ?_⟩))
    | walk_at "way by rule"
    | refine ⟨p, a, rfl, g, ha', ?_⟩
    | refine ⟨p, rfl, g, ?_⟩
    | walk_at "way by form"
    | fail)
      exact ⟨_, _, _, _, rfl, .inr ⟨i, p, rfl, hp, rfl⟩⟩
    · rintro ds' n'' ⟨rfl, _⟩
      rfl
  rintro ds' n'' rfl
  exact s_ret (e_non (kup_of hk))
theorem w_is_piece (T : ClT K C XN) (O : ObT K C) (h : pieceSp C w es n k) : WpS K w (r_is_piece K C (toSp K withinSp) (toSp K listedSp) (toSp K integerSp)) (dstart ["value", "one"] es) n { nx := fun _ n' => kup k .non n', rt := kup k } := by
  obtain ⟨p, rfl, g, hk⟩ := h
  obtain ⟨c1, c2, s0, s1, m0, hl, ⟨q1, q2, q3⟩, n2, n3, nz, _⟩ := g
  have e : (decide (1 ≤ p.c) && decide (p.c ≤ 2199023255552)) = true := by rw [Bool.and_eq_true]; exact ⟨decide_eq_true c1, decide_eq_true (by omega)⟩
  have iter : ∀ {k : List D → Nat → Prop} {n : Nat}, k (p.ns.map .int) n → WpI K w (iSeq K (tFld K (tVar 0) "numbers")) (dstart ["value", "one"] [pcO C p]) n k := fun {k n} hk => i_tup (e_fldX (by
    refine ⟨_, _, _, rfl, T, by decide +kernel, _, rfl, ?_⟩
    exact ⟨_, rfl, hk⟩))
  have tail : ∀ {k : Kn} {n : Nat}, k (.int (p.ns.getD (p.ns.length - 1) 0)) n → RD K w (rIx K) (.tup (p.ns.map .int)) (.int (-1)) n k := fun {k n} hk => rd_ixT (atI_last q1) hk
  have nk : (!decide (kindW p.per ∈ (["order", "period"] : List Str))) = false := by cases p.per <;> decide +kernel
  have ko : decide (kindW p.per = "order") = !p.per := by cases p.per <;> decide +kernel
  have kp : decide (kindW p.per = "period") = p.per := kindW_eq
  unfold r_is_piece
  repeat' (first
    | exact absurd ‹false = true› (by decide)
    | exact absurd ‹true = false› (by decide)
    | exact absurd ‹(!(decide (1 ≤ p.c) && decide (p.c ≤ 2199023255552))) = true› (by rw [e]; decide)
    | exact absurd ‹(!decide (kindW p.per ∈ (["order", "period"] : List Str))) = true› (by rw [nk]; decide)
    | exact absurd (s0 (of_decide_eq_true ‹decide (p.c = 1) = true›)) (by have z := ‹(!decide (p.s = 0)) = true›; simpa using z)
    | with_reducible refine tail ?_
    | (guard_target =~ WpE _ _ _ _ _ _; first | ((with_reducible refine e_fldX ?_); refine ⟨_, _, _, rfl, T, by decide +kernel, _, rfl, ?_⟩) | ((with_reducible refine e_lcIX ⟨fun _ => true, fun _ => .bl true, ?_⟩); (refine iter ?_)))
    | refine rd_ninStrs (xs := ["order", "period"]) ?_
    | refine isi_oo O (kit_self (by simp)) ?_
    | walk_at "way by rule"
    | refine ⟨p.ns, rfl, by omega, fun z hz => ?_, ?_⟩
    | walk_at "way by form"
    | fail)
  all_goals (simp only [ko, kp, List.length_map, Bool.not_eq_true', Bool.not_eq_false', decide_eq_true_eq, decide_eq_false_iff_not] at *)
  all_goals (cases hp : p.per <;> simp only [hp, if_true, if_false, Bool.false_eq_true] at *)
  all_goals first
    | exact kup_of hk
    | (exfalso; omega)
    | (exfalso; simp_all; done)
    | (rw [show (!decide (p.ns.getD (p.ns.length - 1) 0 = 0)) = true by rw [decide_eq_false (by rcases nz trivial with z | z <;> first | exact z | omega)]; rfl]; exact kup_of hk)
    | trace_state
end
end K26
set_option Elab.async false
set_option maxRecDepth 100000
set_option maxHeartbeats 4000000
set_option linter.all false
set_option autoImplicit false
/-! pieces: the refusals do not stand -/
namespace K26
variable [DW.Tb]
open PySem PySem.Spec PyProof.Rows L2 DW
section
variable {K : PySem.W.Frag} {w : Option Addr} {n : Nat} {k : Kn} {es : List D} {C : Addr}
theorem w_are_pieces (h : piecesSp C w es n k) : WpS K w (r_are_pieces K (toSp K listedSp) (toSp K (pieceSp C)) (toSp K (fwSp C))) (dstart ["value", "piece"] es) n { nx := fun _ n' => kup k .non n', rt := kup k } := by
  obtain ⟨d, ps, rfl, hd, R, hk⟩ := h
  have ho := hd.own
  have hl : ∀ {k : Kn} {n : Nat}, k (.bl true) n → listedSp w [d] n k := fun {k n} hk => by
    rcases hd with rfl | rfl
    · exact .inl ⟨_, rfl, hk⟩
    · exact .inr (.inl ⟨_, rfl, hk⟩)
  have iter : ∀ {k : List D → Nat → Prop} {n : Nat}, k (ps.map (pcO C)) n → WpI K w (iSeq K (tVar 0)) (dstart ["value", "piece"] [d]) n k := fun {k n} hk => by
    rcases hd with rfl | rfl
    · exact i_listV ⟨_, rfl, hk⟩
    · exact i_tupV ⟨_, rfl, hk⟩
  unfold r_are_pieces
  repeat' (first
    | exact absurd ‹false = true› (by decide)
    | exact absurd ‹true = false› (by decide)
    | refine hl ?_
    | (guard_target =~ WpE _ _ _ _ _ _; first | ((with_reducible refine e_varX ?_); refine ⟨_, rfl, ho, ?_⟩) | ((with_reducible refine e_lcGX ⟨pcO C, fun _ => true, fun _ => .bl true, fun _ => rfl, ?_⟩); (refine iter ?_)))
    | walk_at "way by rule"
    | refine ⟨ps, rfl, R.len, fun z hz => ?_, ?_⟩
    | refine ⟨z, rfl, R.good z hz, ?_⟩
    | refine ⟨d, ps, rfl, hd, R, ?_⟩
    | walk_at "way by form"
    | fail)
  all_goals exact kup_of hk
theorem w_need_pieces (h : needPSp C w es n k) : WpS K w (r_need_pieces K (toSp K (piecesSp C))) (dstart ["part", "value"] es) n { nx := fun _ n' => kup k .non n', rt := kup k } := by
  obtain ⟨x, d, ps, rfl, hd, R, hk⟩ := h
  have ho := hd.own
  unfold r_need_pieces
  repeat' (first
    | exact absurd ‹false = true› (by decide)
    | exact absurd ‹true = false› (by decide)
    | ((with_reducible refine e_varX ?_); refine ⟨_, rfl, ho, ?_⟩)
    | walk_at "way by rule"
    | refine ⟨d, ps, rfl, hd, R, ?_⟩
    | walk_at "way by form"
    | fail)
  all_goals exact kup_of hk
end
end K26
set_option Elab.async false
set_option maxRecDepth 100000
set_option maxHeartbeats 4000000
set_option linter.all false
set_option autoImplicit false
/-! parts of pieces -/
namespace K26
variable [DW.Tb]
open PySem PySem.Spec PyProof.Rows L2 DW
theorem getD_take {L r : List Int} {j i : Nat} (hr : r = L.take j) (hi : i < r.length) : L.getD i 0 = r.getD i 0 := by
  subst hr
  rw [List.length_take] at hi
  rw [List.getD_eq_getElem?_getD, List.getD_eq_getElem?_getD, List.getElem?_take, if_pos (by omega)]
def TrimOf (l r : List Int) : Prop := ∃ j, r = l.take j ∧ 1 ≤ r.length ∧ (∀ i, r.length ≤ i → l.getD i 0 = 0) ∧ (r.length = 1 ∨ r.getD (r.length - 1) 0 ≠ 0)
abbrev trimSp : DSpW := fun w es n k => ∃ (l : List Int) (c : Nat), es = [.lst (l.map .int), .int c] ∧ 1 ≤ c ∧ 1 ≤ l.length ∧ l.length ≤ 1000 ∧ ∀ r, TrimOf (l.take c) r → k (.lst (r.map .int)) n
section
variable {K : PySem.W.Frag} {w : Option Addr} {n : Nat} {k : Kn} {es : List D} {C : Addr}
theorem w_trimmed (h : trimSp w es n k) : WpS K w (r_trimmed K) (dstart ["numbers", "count", "found"] es) n { nx := fun _ n' => kup k .non n', rt := kup k } := by
  obtain ⟨l, c, rfl, c1, l1, l2, hk⟩ := h
  unfold r_trimmed
  refine s_seq (s_own (f_sl ?_))
  repeat' (first
    | exact absurd ‹false = true› (by decide)
    | exact absurd ‹true = false› (by decide)
    | walk_at "way by rule"
    | walk_at "way by form"
    | fail)
  rw [cutD_take, ← List.map_take]
  refine s_while (fun m ds' n' => n' = n ∧ ∃ (r : List Int) (j : Nat), ds' = [some (.lst (l.map .int)), some (.int c), some (.own (r.map .int))] ∧ m = r.length ∧ r = (l.take c).take j ∧ 1 ≤ r.length ∧ (∀ i, r.length ≤ i → (l.take c).getD i 0 = 0)) (l.take c).length ⟨rfl, l.take c, (l.take c).length, rfl, rfl, (List.take_length).symm, by rw [List.length_take]; omega, fun i hi => ?_⟩ ?_
  · rw [List.getD_eq_getElem?_getD, List.getElem?_eq_none hi]; rfl
  rintro m ds' n' ⟨rfl, r, j, rfl, rfl, hr, r1, rz⟩
  repeat' (first
    | exact absurd ‹false = true› (by decide)
    | exact absurd ‹true = false› (by decide)
    | (guard_target =~ WpE _ _ _ _ _ _; first | ((with_reducible refine e_lenOwnX ?_); refine ⟨_, rfl, ?_⟩) | ((with_reducible refine e_ixOwnX ?_); refine ⟨_, rfl, ?_⟩))
    | (guard_target =~ WpS _ _ _ _ _ _; first | ((with_reducible refine s_popX ?_); refine ⟨_, rfl, ?_, ?_⟩) | (with_reducible refine s_retOwn rfl ?_))
    | walk_at "way by rule"
    | refine ⟨_, _, rfl, atI_last r1, ?_⟩
    | walk_at "way by form"
    | fail)
  · intro z
    rw [List.map_eq_nil_iff] at z
    rw [z] at r1
    simp at r1
  · rename_i q1 q2
    have q1 := of_decide_eq_true q1
    rw [List.length_map] at q1
    have q2 := of_decide_eq_true q2
    have hd : r.dropLast = (l.take c).take (min (r.length - 1) j) := by
      rw [List.dropLast_eq_take]
      conv => lhs; rw [hr]
      rw [List.take_take, ← hr]
    refine ⟨r.dropLast.length, by rw [List.length_dropLast]; omega, rfl, r.dropLast, min (r.length - 1) j, by rw [List.map_dropLast]; rfl, rfl, hd, by rw [List.length_dropLast]; omega, fun i hi => ?_⟩
    rw [List.length_dropLast] at hi
    by_cases e : r.length ≤ i
    · exact rz i e
    · have e : i = r.length - 1 := by omega
      rw [e, getD_take hr (by omega), q2]
  · rename_i q
    exact kup_of (hk r ⟨j, hr, r1, rz, .inr (of_decide_eq_false q)⟩)
  · rename_i q _
    have q := of_decide_eq_false q
    rw [List.length_map] at q
    exact kup_of (hk r ⟨j, hr, r1, rz, .inl (by omega)⟩)
end
end K26
set_option Elab.async false
set_option maxRecDepth 100000
set_option maxHeartbeats 4000000
set_option linter.all false
set_option autoImplicit false
/-! parts of pieces -/
namespace K26
variable [DW.Tb]
open PySem PySem.Spec PyProof.Rows L2 DW
def lapL (ns : List Int) (b : Int) (c : Int) : List Int := ((List.range (min (ns.length : Int) c).toNat).map fun i => (0 : Int) + (i : Nat)).map fun z => ns.getD ((b + z) % (ns.length : Int)).toNat 0
def PartOf (per : Bool) (ns : List Int) (b c : Int) (r : List Int) : Prop := (per = true → r = lapL ns b c) ∧ (per = false → TrimOf ([numAt false ns b, ns.getD 1 0 + ns.getD 2 0 * b, ns.getD 2 0].take c.toNat) r)
abbrev partSp : DSpW := fun w es n k => ∃ per nd ns b c, es = [.str (kindW per), nd, .int b, .int c] ∧ IsNs nd ns ∧ Small ns ∧ 0 ≤ b ∧ b ≤ 2 ^ 60 ∧ 1 ≤ c ∧ c ≤ 2 ^ 41 ∧ ∀ r, PartOf per ns b c r → k (.lst (r.map .int)) n
def belowN (p : Pc) (x : Int) : Int := if x ≤ p.m then 0 else if p.c = 1 then 1 else min p.c ((x - p.m - 1) / p.s + 1)
abbrev belowSp (C : Addr) : DSpW := fun w es n k => ∃ p x, es = [pcO C p, .int x] ∧ Good p ∧ -(2 ^ 60) ≤ x ∧ x ≤ 2 ^ 60 ∧ k (.int (belowN p x)) n
section
variable {K : PySem.W.Frag} {w : Option Addr} {n : Nat} {k : Kn} {es : List D} {C : Addr}
theorem w_part_of (h : partSp w es n k) : WpS K w (r_part_of K (toSp K padSp) (toSp K trimSp) (toSp K naSp)) (dstart ["kind", "numbers", "begin", "count", "first", "more", "bend", "at"] es) n { nx := fun _ n' => kup k .non n', rt := kup k } := by
  obtain ⟨per, nd, ns, b, c, rfl, hd, hs, b0, b2, c1, c2, hk⟩ := h
  obtain ⟨s1, s2, s3⟩ := id hs
  have ho := hd.own
  have lenR : ∀ {k : Kn} {n : Nat}, k (.int (ns.length : Int)) n → RC K w (rLenU K) [nd] n k := fun {k n} hk => by
    rcases hd with rfl | rfl
    · exact rc_lenL (by rw [List.length_map]; exact hk)
    · exact rc_lenT (by rw [List.length_map]; exact hk)
  have bb := getD_bnd (B := 2 ^ 60) (by decide) s3 2
  unfold r_part_of
  refine s_seq (s_if ?_)
  repeat' (first
    | exact absurd ‹false = true› (by decide)
    | exact absurd ‹true = false› (by decide)
    | walk_at "way by rule"
    | walk_at "way by form"
    | fail)
  · rename_i q
    have q : per = true := by rw [← kindW_eq (per := per)]; exact q
    subst q
    refine e_lcIX ⟨fun _ => true, fun z => .int (ns.getD ((b + z) % (ns.length : Int)).toNat 0), ?_⟩
    repeat' (first
    | exact absurd ‹false = true› (by decide)
    | exact absurd ‹true = false› (by decide)
    | with_reducible refine lenR ?_
    | ((with_reducible refine e_varX ?_); refine ⟨_, rfl, ho, ?_⟩)
    | walk_at "way by rule"
    | walk_at "way by form"
    | fail)
    refine ⟨(List.range (min (ns.length : Int) c).toNat).map fun i => (0 : Int) + (i : Nat), by rw [List.map_map]; rfl, by rw [List.length_map, List.length_range]; omega, fun z hz' => ?_, ?_⟩
    · repeat' (first
    | exact absurd ‹false = true› (by decide)
    | exact absurd ‹true = false› (by decide)
    | with_reducible refine lenR ?_
    | (refine rd_ixNs hd ⟨⟨Int.emod_nonneg _ (by omega), Int.emod_lt_of_pos _ (by omega)⟩, ?_⟩)
    | ((with_reducible refine e_varX ?_); refine ⟨_, rfl, ho, ?_⟩)
    | walk_at "way by rule"
    | walk_at "way by form"
    | fail)
      all_goals exact ⟨rfl, rfl⟩
    · have e : ((((List.range (min (ns.length : Int) c).toNat).map fun i => (0 : Int) + (i : Nat)).filter fun _ => true).map fun z => D.int (ns.getD ((b + z) % (ns.length : Int)).toNat 0)) = (lapL ns b c).map .int := by
        rw [List.filter_eq_self.mpr fun _ _ => rfl]
        unfold lapL
        rw [List.map_map, List.map_map, List.map_map]
        rfl
      rw [e]
      exact kup_of (hk _ ⟨fun _ => rfl, fun z => (nomatch z)⟩)
  · rename_i q
    have q : per = false := by rw [← kindW_eq (per := per)]; exact q
    subst q
    obtain ⟨cn, rfl⟩ := Int.eq_ofNat_of_zero_le (show 0 ≤ c by omega)
    repeat' (first
    | exact absurd ‹false = true› (by decide)
    | exact absurd ‹true = false› (by decide)
    | ((with_reducible refine e_varX ?_); refine ⟨_, rfl, ho, ?_⟩)
    | walk_at "way by rule"
    | refine ⟨_, _, rfl, hd, s1, s2, ?_⟩
    | refine ⟨_, _, g_lst (gs_cons g_name (gs_cons g_name (gs_cons g_name gs_nil))) rfl, ?_⟩
    | refine ⟨_, _, _, _, rfl, hd, hs, b0, b2, ?_⟩
    | refine ⟨[numAt false ns b, ns.getD 1 0 + ns.getD 2 0 * b, ns.getD 2 0], cn, rfl, by omega, by simp, by simp, fun r hr => ?_⟩
    | walk_at "way by form"
    | fail)
    exact kup_of (hk r ⟨fun z => (nomatch z), fun _ => hr⟩)
end
end K26
set_option autoImplicit false
set_option linter.all false
/-! plain laws: parts of pieces -/
namespace K26
variable [DW.Tb]
theorem pairs_two (x : Int) : 2 * pairs x = x * (x - 1) := by
  unfold pairs
  have h : x * (x - 1) % 2 = 0 := by
    rcases Int.emod_two_eq x with e | e
    · rw [Int.mul_emod, e]; simp
    · rw [Int.mul_emod, Int.sub_emod, e]; simp
  omega
theorem pairs_add (b i : Int) : pairs (b + i) = pairs b + b * i + pairs i := by
  have h1 := pairs_two (b + i)
  have h2 := pairs_two b
  have h3 := pairs_two i
  have e : (b + i) * (b + i - 1) = b * (b - 1) + 2 * (b * i) + i * (i - 1) := by
    rw [Int.mul_sub, Int.mul_sub, Int.mul_sub, Int.add_mul, Int.mul_add, Int.mul_add, Int.mul_comm i b]
    omega
  rw [e] at h1
  omega
theorem TrimOf.getD {l r : List Int} (h : TrimOf l r) (i : Nat) : r.getD i 0 = l.getD i 0 := by
  obtain ⟨j, hr, h1, h2, h3⟩ := h
  by_cases q : i < r.length
  · exact (getD_take hr q).symm
  · rw [h2 i (by omega), List.getD_eq_getElem?_getD, List.getElem?_eq_none (by omega)]; rfl
theorem TrimOf.len {l r : List Int} (h : TrimOf l r) : 1 ≤ r.length ∧ r.length ≤ l.length := by
  obtain ⟨j, hr, h1, h2, h3⟩ := h
  refine ⟨h1, ?_⟩
  rw [hr, List.length_take]
  omega
/-- the numbers of a part -/
theorem part_num {per : Bool} {ns r : List Int} {b c : Int} (hn : 1 ≤ ns.length) (hb : 0 ≤ b) (hc : 1 ≤ c) (h : PartOf per ns b c r) {i : Int} (h0 : 0 ≤ i) (hi : i < c) : numAt per r i = numAt per ns (b + i) := by
  obtain ⟨hp, ho⟩ := h
  cases per with
  | true =>
    rw [hp rfl]
    unfold numAt
    rw [if_pos rfl, if_pos rfl]
    have hl : (lapL ns b c).length = (min (ns.length : Int) c).toNat := by unfold lapL; rw [List.length_map, List.length_map, List.length_range]
    have hm : (0 : Int) < (min (ns.length : Int) c).toNat := by omega
    have e1 := Int.emod_nonneg i (show ((min (ns.length : Int) c).toNat : Int) ≠ 0 by omega)
    have e2 := Int.emod_lt_of_pos i hm
    rw [hl]
    have hlt : (i % ((min (ns.length : Int) c).toNat : Int)).toNat < (min (ns.length : Int) c).toNat := by omega
    have g : (lapL ns b c).getD (i % ((min (ns.length : Int) c).toNat : Int)).toNat 0 = ns.getD ((b + i % ((min (ns.length : Int) c).toNat : Int)) % (ns.length : Int)).toNat 0 := by
      rw [List.getD_eq_getElem?_getD]
      unfold lapL
      rw [List.getElem?_map, List.getElem?_map, List.getElem?_range hlt]
      show ns.getD ((b + (0 + (((i % ((min (ns.length : Int) c).toNat : Int)).toNat : Nat) : Int))) % (ns.length : Int)).toNat 0 = _
      rw [Int.zero_add, Int.toNat_of_nonneg e1]
    rw [g]
    congr 2
    by_cases q : (ns.length : Int) ≤ c
    · rw [show ((min (ns.length : Int) c).toNat : Int) = (ns.length : Int) by omega]
      rw [Int.add_emod, Int.emod_emod_of_dvd _ (Int.dvd_refl _), ← Int.add_emod]
    · rw [show ((min (ns.length : Int) c).toNat : Int) = c by omega, Int.emod_eq_of_lt h0 hi]
  | false =>
    have ht := (ho rfl).getD
    unfold numAt
    rw [if_neg (by simp), if_neg (by simp), ht, ht, ht]
    have p0 : pairs 0 = 0 := rfl
    have p1 : pairs 1 = 0 := rfl
    have add := pairs_add b i
    have key : numAt false ns b + (ns.getD 1 0 + ns.getD 2 0 * b) * i + ns.getD 2 0 * pairs i = ns.getD 0 0 + ns.getD 1 0 * (b + i) + ns.getD 2 0 * pairs (b + i) := by
      unfold numAt
      rw [if_neg (by simp), add, Int.mul_add, Int.mul_add, Int.mul_add, Int.add_mul, Int.mul_assoc]
      omega
    rw [← key]
    obtain ⟨cn, rfl⟩ := Int.eq_ofNat_of_zero_le (show 0 ≤ c by omega)
    match cn, hc, hi with
    | 1, _, hi =>
      obtain rfl : i = 0 := by omega
      simp [p0]
    | 2, _, hi =>
      have : i = 0 ∨ i = 1 := by omega
      rcases this with rfl | rfl <;> simp [p0, p1]
    | (m + 3), _, _ => rfl
end K26
set_option autoImplicit false
set_option linter.all false
/-! plain laws: a part of a good piece is good -/
namespace K26
variable [DW.Tb]
theorem mem_getD {r : List Int} {z : Int} (h : z ∈ r) : ∃ i, i < r.length ∧ r.getD i 0 = z := by
  obtain ⟨i, hi, e⟩ := List.mem_iff_getElem.mp h
  refine ⟨i, hi, ?_⟩
  rw [List.getD_eq_getElem?_getD, List.getElem?_eq_getElem hi, e]; rfl
def partPc (p : Pc) (b c : Int) (r : List Int) : Pc := ⟨p.m + p.s * b, if 1 < c then p.s else 0, c, p.per, r⟩
theorem Good.s_nn {p : Pc} (g : Good p) : 0 ≤ p.s := by
  by_cases q : p.c = 1
  · rw [g.s0 q]; exact Int.le_refl _
  · have := g.s1 (by have := g.c1; omega)
    omega
theorem step_num (ns : List Int) (b : Int) : numAt false ns (b + 1) - numAt false ns b = ns.getD 1 0 + ns.getD 2 0 * b := by
  unfold numAt
  rw [if_neg (by simp), if_neg (by simp), pairs_add, show pairs 1 = 0 from rfl, Int.mul_one, Int.mul_add, Int.mul_one, Int.add_zero, Int.mul_add]
  omega
theorem part_small {p : Pc} (g : Good p) {b c : Int} {r : List Int} (b0 : 0 ≤ b) (c1 : 1 ≤ c) (hbc : b + c ≤ p.c) (h : PartOf p.per p.ns b c r) : Small r ∧ (r.length : Int) ≤ c ∧ (r.length ≤ if p.per = true then 8 else 3) ∧ (p.per = false → r.length = 1 ∨ r.getD (r.length - 1) 0 ≠ 0) := by
  obtain ⟨hp, ho⟩ := h
  obtain ⟨s1, s2, s3⟩ := g.small
  have n3 := g.n3
  cases hper : p.per with
  | true =>
    rw [hper] at n3
    rw [if_pos rfl] at n3
    have hl : r.length = (min (p.ns.length : Int) c).toNat := by rw [hp hper]; unfold lapL; rw [List.length_map, List.length_map, List.length_range]
    refine ⟨⟨by omega, by omega, fun z hz => ?_⟩, by omega, by rw [if_pos rfl]; omega, fun z => nomatch z⟩
    rw [hp hper] at hz
    unfold lapL at hz
    obtain ⟨y, _, rfl⟩ := List.mem_map.mp hz
    exact getD_bnd (by decide) s3 _
  | false =>
    have t := ho hper
    obtain ⟨t1, t2⟩ := t.len
    rw [List.length_take] at t2
    have t3 : ([numAt false p.ns b, p.ns.getD 1 0 + p.ns.getD 2 0 * b, p.ns.getD 2 0] : List Int).length = 3 := rfl
    rw [t3] at t2
    have v := g.vb
    rw [hper] at v
    refine ⟨⟨t1, by omega, fun z hz => ?_⟩, by omega, by rw [if_neg (by simp)]; omega, fun _ => t.choose_spec.2.2.2⟩
    obtain ⟨i, hi, rfl⟩ := mem_getD hz
    rw [t.getD, List.getD_eq_getElem?_getD, List.getElem?_take, if_pos (by omega)]
    match i, hi with
    | 0, _ =>
      have := v b b0 (by omega)
      show -(2 ^ 60) ≤ numAt false p.ns b ∧ numAt false p.ns b ≤ 2 ^ 60
      omega
    | 1, hi =>
      have h1 := v b b0 (by omega)
      have h2 := v (b + 1) (by omega) (by omega)
      have h3 := step_num p.ns b
      show -(2 ^ 60) ≤ p.ns.getD 1 0 + p.ns.getD 2 0 * b ∧ p.ns.getD 1 0 + p.ns.getD 2 0 * b ≤ 2 ^ 60
      omega
    | 2, _ => exact getD_bnd (B := 2 ^ 60) (by decide) s3 2
    | (m + 3), hi => omega
theorem part_good {p : Pc} (g : Good p) {b c : Int} {r : List Int} (b0 : 0 ≤ b) (c1 : 1 ≤ c) (hbc : b + c ≤ p.c) (h : PartOf p.per p.ns b c r) : Good (partPc p b c r) := by
  obtain ⟨a1, a2, a3, a4⟩ := part_small g b0 c1 hbc h
  have sn := g.s_nn
  have k1 : 0 ≤ p.s * b := Int.mul_nonneg sn b0
  have k2 : p.s * (b + (c - 1)) ≤ p.s * (p.c - 1) := Int.mul_le_mul_of_nonneg_left (by omega) sn
  rw [Int.mul_add] at k2
  have k3 : 0 ≤ p.s * (c - 1) := Int.mul_nonneg sn (by omega)
  have m0 := g.m0
  have hl := g.last
  have c2 := g.c2
  refine ⟨c1, by show c ≤ _; omega, fun q => ?_, fun q => ?_, by show 0 ≤ p.m + p.s * b; omega, ?_, a1, a2, a3, a4, fun i i0 ic => ?_⟩
  · have q : c = 1 := q
    show (if 1 < c then p.s else 0) = 0
    rw [if_neg (by omega)]
  · have q : 1 < c := q
    show 1 ≤ if 1 < c then p.s else 0
    rw [if_pos q]
    exact g.s1 (by omega)
  · show p.m + p.s * b + (if 1 < c then p.s else 0) * (c - 1) ≤ 2 ^ 40 - 1
    by_cases q : 1 < c
    · rw [if_pos q]; omega
    · rw [if_neg q, Int.zero_mul]; omega
  · show -(2 ^ 40) ≤ numAt p.per r i ∧ numAt p.per r i ≤ 2 ^ 40
    have ic : i < c := ic
    rw [part_num g.small.n1 b0 c1 h i0 ic]
    exact g.vb (b + i) (by omega) (by omega)
end K26
set_option Elab.async false
set_option maxRecDepth 100000
set_option maxHeartbeats 4000000
set_option linter.all false
set_option autoImplicit false
/-! parts of pieces, made -/
namespace K26
variable [DW.Tb]
open PySem PySem.Spec PyProof.Rows L2 DW
abbrev popSp (C : Addr) : DSpW := fun w es n k => ∃ p b c, es = [pcO C p, .int b, .int c] ∧ Good p ∧ 0 ≤ b ∧ 1 ≤ c ∧ b + c ≤ p.c ∧ ∀ r, PartOf p.per p.ns b c r → k (pcO C (partPc p b c r)) n
section
variable {K : PySem.W.Frag} {w : Option Addr} {n : Nat} {k : Kn} {es : List D} {C : Addr}
end
end K26
set_option Elab.async false
set_option maxRecDepth 100000
set_option maxHeartbeats 4000000
set_option linter.all false
set_option autoImplicit false
/-! plain: ways, tokens, the numbers that they tell -/
namespace K26
variable [DW.Tb]
open DW
/-- what is foretold of the last numbers -/
def nxt (per : Bool) (k : Nat) (l : List Int) : Int :=
  if per = true then l.getD 0 0 else if k = 0 then 0 else if k = 1 then l.getD 0 0 else if k = 2 then 2 * l.getD 1 0 - l.getD 0 0 else 3 * l.getD 2 0 - 3 * l.getD 1 0 + l.getD 0 0
def mv (l : List Int) (z : Int) : List Int := if l = [] then [] else (l ++ [z]).drop 1
inductive Tk where
  | near (z : Int)
  | run (j : Nat)
def Tk.many : Tk → Nat
  | .near _ => 1
  | .run j => 2 ^ j
def Tk.diff : Tk → Int
  | .near z => z
  | .run _ => 0
def tkD : Tk → D
  | .near z => .int z
  | .run j => .tup [.str "run", .int j]
/-- the last k numbers, noughts ahead -/
def lastK (k : Nat) (f : List Int) : List Int := (List.replicate k 0 ++ f).drop f.length
def nx (per : Bool) (k : Nat) (f : List Int) : Int := nxt per k (lastK k f)
def grow (per : Bool) (k : Nat) (d : Int) (f : List Int) : Nat → List Int
  | 0 => f
  | n + 1 => grow per k d f n ++ [nx per k (grow per k d f n) + d]
def tell (per : Bool) (k : Nat) (f : List Int) (t : Tk) : List Int := grow per k t.diff f t.many
def numsOf (per : Bool) (k : Nat) (ts : List Tk) : List Int := ts.foldl (tell per k) []
structure WayOk (per : Bool) (k : Nat) : Prop where
  lo : per = true → 1 ≤ k ∧ k ≤ 8
  hi : per = false → k ≤ 3
theorem lastK_len {k : Nat} {f : List Int} : (lastK k f).length = k := by unfold lastK; simp
theorem mv_last {k : Nat} {f : List Int} {z : Int} : mv (lastK k f) z = lastK k (f ++ [z]) := by
  unfold mv
  by_cases h : k = 0
  · have e : lastK k f = [] := List.eq_nil_of_length_eq_zero (by rw [lastK_len]; exact h)
    have e2 : lastK k (f ++ [z]) = [] := List.eq_nil_of_length_eq_zero (by rw [lastK_len]; exact h)
    rw [if_pos e, e2]
  · have e : lastK k f ≠ [] := fun z => by have := congrArg List.length z; rw [lastK_len] at this; simp at this; omega
    rw [if_neg e]
    unfold lastK
    rw [← List.append_assoc, List.length_append, List.length_singleton, ← List.drop_drop, List.drop_append_of_le_length (l₁ := List.replicate k 0 ++ f) (by simp)]
theorem grow_len {per : Bool} {k : Nat} {d : Int} {f : List Int} : ∀ n, (grow per k d f n).length = f.length + n
  | 0 => rfl
  | n + 1 => by show (grow per k d f n ++ [_]).length = _; rw [List.length_append, grow_len n]; simp; omega
theorem tell_len {per : Bool} {k : Nat} {f : List Int} {t : Tk} : (tell per k f t).length = f.length + t.many := grow_len _
def manyAll (ts : List Tk) : Nat := (ts.map Tk.many).sum
theorem foldl_len {per : Bool} {k : Nat} : ∀ (ts : List Tk) (f : List Int), (ts.foldl (tell per k) f).length = f.length + manyAll ts
  | [], f => by simp [manyAll]
  | t :: ts, f => by
    rw [List.foldl_cons, foldl_len ts, tell_len]
    unfold manyAll
    rw [List.map_cons, List.sum_cons]
    omega
theorem numsOf_len {per : Bool} {k : Nat} {ts : List Tk} : (numsOf per k ts).length = manyAll ts := by
  unfold numsOf
  rw [foldl_len]
  simp
theorem take_foldl {per : Bool} {k : Nat} {ts : List Tk} {i : Nat} {t : Tk} (h : ts[i]? = some t) : (ts.take (i + 1)).foldl (tell per k) [] = tell per k ((ts.take i).foldl (tell per k) []) t := by
  obtain ⟨h1, h2⟩ := List.getElem?_eq_some_iff.mp h
  rw [List.take_succ_eq_append_getElem h1, h2, List.foldl_append]
  rfl
end K26
set_option Elab.async false
set_option maxRecDepth 100000
set_option maxHeartbeats 4000000
set_option linter.all false
set_option autoImplicit false
/-! ways and tokens walked -/
namespace K26
variable [DW.Tb]
open PySem PySem.Spec PyProof.Rows L2 DW
def wayD (per : Bool) (k : Nat) : D := .tup [.str (kindW per), .int k]
def LaneOk (lane : Str) (per : Bool) (k : Nat) : Prop := WayOk per k ∧ (lane = "values" ∨ (lane = "moments" ∧ per = false ∧ k ≤ 2))
abbrev isWaySp : DSpW := fun w es n k => ∃ lane per m, es = [.str lane, wayD per m] ∧ LaneOk lane per m ∧ k (.bl true) n
abbrev needWaySp : DSpW := fun w es n k => ∃ x lane per m, es = [.str x, .str lane, wayD per m] ∧ LaneOk lane per m ∧ k .non n
def TkOk (t : Tk) : Prop := ∀ j, t = .run j → 1 ≤ j ∧ j ≤ 12
abbrev isTkSp : DSpW := fun w es n k => ∃ t, es = [tkD t] ∧ TkOk t ∧ k (.bl true) n
abbrev needTkSp : DSpW := fun w es n k => ∃ (x : Str) (ts : List Tk), es = [.str x, .lst (ts.map tkD)] ∧ ts.length ≤ 100000 ∧ (∀ t ∈ ts, TkOk t) ∧ k .non n
abbrev reachSp : DSpW := fun w es n k => ∃ per m, es = [wayD per m] ∧ k (.int m) n
abbrev nextSp : DSpW := fun w es n k => ∃ per m l, es = [wayD per m, .lst (l.map .int)] ∧ WayOk per m ∧ l.length = m ∧ k (.int (nxt per m l)) n
abbrev beginSp : DSpW := fun w es n k => ∃ per m, es = [wayD per m] ∧ m ≤ 8 ∧ k (.lst ((List.replicate m 0).map .int)) n
abbrev movedSp : DSpW := fun w es n k => ∃ (l : List Int) (z : Int), es = [.lst (l.map .int), .int z] ∧ l.length ≤ 1000 ∧ k (.lst ((mv l z).map .int)) n
abbrev manySp : DSpW := fun w es n k => ∃ t, es = [tkD t] ∧ TkOk t ∧ k (.int t.many) n
abbrev diffSp : DSpW := fun w es n k => ∃ z, es = [.int z] ∧ k (.int z) n
theorem rep_flat (z : Int) : ∀ n : Nat, (List.replicate n [D.int z]).flatten = (List.replicate n z).map .int
  | 0 => rfl
  | n + 1 => by rw [List.replicate_succ, List.replicate_succ, List.flatten_cons, List.map_cons, rep_flat z n]; rfl
theorem tk_own (t : Tk) : isOwn (tkD t) = false := by cases t <;> rfl
theorem WayOk.k8 {per : Bool} {m : Nat} (h : WayOk per m) : m ≤ 8 := by
  cases per with
  | true => exact (h.lo rfl).2
  | false => have := h.hi rfl; omega
section
variable {K : PySem.W.Frag} {w : Option Addr} {n : Nat} {k : Kn} {es : List D} {C : Addr}
theorem w_is_way (h : isWaySp w es n k) : WpS K w (r_is_way K (toSp K listedSp) (toSp K withinSp)) (dstart ["lane", "value"] es) n { nx := fun _ n' => kup k .non n', rt := kup k } := by
  obtain ⟨lane, per, m, rfl, ⟨ok, hl⟩, hk⟩ := h
  have lo := ok.lo
  have hi := ok.hi
  have ninL : ∀ {k : Kn} {n : Nat} {x : Str}, (x = "values" ∨ x = "moments") → k (.bl false) n → RD K w (rInU K true) (.str x) (.tup k_LANES) n k := fun {k n x} hx hk => rd_ninStrs (xs := ["moments", "values"]) (by
    rcases hx with rfl | rfl
    · rw [show (!decide (("values" : Str) ∈ [("moments" : Str), "values"])) = false by decide +kernel]; exact hk
    · rw [show (!decide (("moments" : Str) ∈ [("moments" : Str), "values"])) = false by decide +kernel]; exact hk)
  rcases hl with rfl | ⟨rfl, rfl, h2⟩
  · cases per <;> unfold r_is_way wayD <;> (
    repeat' (first
    | exact absurd ‹false = true› (by decide)
    | exact absurd ‹true = false› (by decide)
    | with_reducible refine ninL (.inl rfl) ?_
    | exact absurd ‹decide (_ = _) = true› (by decide +kernel)
    | exact absurd ‹decide (_ = _) = false› (by decide +kernel)
    | (with_reducible refine e_kt ?_)
    | walk_at "way by rule"
    | refine ⟨_, _, _, rfl, ?_⟩
    | walk_at "way by form"
    | fail))
    · have h3 := hi rfl
      refine kup_of ?_
      rw [decide_eq_true (show (0 : Int) ≤ m by omega), decide_eq_true (show (m : Int) ≤ 3 by omega)]
      exact hk
    · have h3 := lo rfl
      refine kup_of ?_
      rw [decide_eq_true (show (1 : Int) ≤ m by omega), decide_eq_true (show (m : Int) ≤ 8 by omega)]
      exact hk
  · unfold r_is_way wayD
    repeat' (first
    | exact absurd ‹false = true› (by decide)
    | exact absurd ‹true = false› (by decide)
    | with_reducible refine ninL (.inr rfl) ?_
    | exact absurd ‹decide (_ = _) = true› (by decide +kernel)
    | exact absurd ‹decide (_ = _) = false› (by decide +kernel)
    | (with_reducible refine e_kt ?_)
    | walk_at "way by rule"
    | refine ⟨_, _, _, rfl, ?_⟩
    | walk_at "way by form"
    | fail)
    refine kup_of ?_
    rw [decide_eq_true (show (0 : Int) ≤ m by omega), decide_eq_true (show (m : Int) ≤ 3 - 1 by omega)]
    exact hk
theorem w_need_way (h : needWaySp w es n k) : WpS K w (r_need_way K (toSp K isWaySp)) (dstart ["part", "lane", "value"] es) n { nx := fun _ n' => kup k .non n', rt := kup k } := by
  obtain ⟨x, lane, per, m, rfl, ok, hk⟩ := h
  unfold r_need_way wayD
  repeat' (first
    | exact absurd ‹false = true› (by decide)
    | exact absurd ‹true = false› (by decide)
    | walk_at "way by rule"
    | refine ⟨lane, per, m, rfl, ok, ?_⟩
    | walk_at "way by form"
    | fail)
  all_goals exact kup_of hk
theorem w_is_token (h : isTkSp w es n k) : WpS K w (r_is_token K (toSp K integerSp) (toSp K listedSp) (toSp K withinSp)) (dstart ["value"] es) n { nx := fun _ n' => kup k .non n', rt := kup k } := by
  obtain ⟨t, rfl, ok, hk⟩ := h
  cases t with
  | near z =>
    unfold r_is_token tkD
    repeat' (first
    | exact absurd ‹false = true› (by decide)
    | exact absurd ‹true = false› (by decide)
    | walk_at "way by rule"
    | walk_at "way by form"
    | fail)
    all_goals exact kup_of hk
  | run j =>
    have hj := ok j rfl
    unfold r_is_token tkD
    repeat' (first
    | exact absurd ‹false = true› (by decide)
    | exact absurd ‹true = false› (by decide)
    | exact absurd ‹decide (_ = _) = true› (by decide +kernel)
    | exact absurd ‹decide (_ = _) = false› (by decide +kernel)
    | walk_at "way by rule"
    | refine ⟨_, _, _, rfl, ?_⟩
    | walk_at "way by form"
    | fail)
    refine kup_of ?_
    rw [decide_eq_true (show (1 : Int) ≤ j by omega), decide_eq_true (show (j : Int) ≤ 36 by omega)]
    exact hk
theorem w_need_tokens (h : needTkSp w es n k) : WpS K w (r_need_tokens K (toSp K listedSp) (toSp K isTkSp)) (dstart ["part", "value", "token"] es) n { nx := fun _ n' => kup k .non n', rt := kup k } := by
  obtain ⟨x, ts, rfl, hl, ok, hk⟩ := h
  unfold r_need_tokens
  repeat' (first
    | exact absurd ‹false = true› (by decide)
    | exact absurd ‹true = false› (by decide)
    | (guard_target =~ WpE _ _ _ _ _ _; first | ((with_reducible refine e_lcGX ⟨tkD, fun _ => true, fun _ => .bl true, tk_own, ?_⟩)) | ((with_reducible refine e_varX ?_); refine ⟨_, rfl, tk_own _, ?_⟩))
    | walk_at "way by rule"
    | refine ⟨ts, rfl, hl, fun z hz => ?_, ?_⟩
    | refine ⟨z, rfl, ok z ‹_›, ?_⟩
    | walk_at "way by form"
    | fail)
  all_goals exact kup_of hk
theorem w_reach_of (h : reachSp w es n k) : WpS K w (r_reach_of K) (dstart ["way"] es) n { nx := fun _ n' => kup k .non n', rt := kup k } := by
  obtain ⟨per, m, rfl, hk⟩ := h
  unfold r_reach_of wayD
  repeat' (first
    | exact absurd ‹false = true› (by decide)
    | exact absurd ‹true = false› (by decide)
    | walk_at "way by rule"
    | walk_at "way by form"
    | fail)
  all_goals exact kup_of hk
theorem w_next_by (h : nextSp w es n k) : WpS K w (r_next_by K) (dstart ["way", "last"] es) n { nx := fun _ n' => kup k .non n', rt := kup k } := by
  obtain ⟨per, m, l, rfl, ok, hl, hk⟩ := h
  have lo := ok.lo
  have hi := ok.hi
  have ix : ∀ {i : Int} {n : Nat} {k : Kn}, (0 ≤ i ∧ i < l.length) ∧ k (.int (l.getD i.toNat 0)) n → RD K w (rIx K) (.lst (l.map .int)) (.int i) n k := fun {i n k} h => rd_ixNs (.inl rfl) h
  cases per with
  | true =>
    have lo := lo rfl
    unfold r_next_by wayD
    repeat' (first
    | exact absurd ‹false = true› (by decide)
    | exact absurd ‹true = false› (by decide)
    | with_reducible refine ix ⟨⟨by omega, by omega⟩, ?_⟩
    | exact absurd ‹decide (_ = _) = true› (by decide +kernel)
    | exact absurd ‹decide (_ = _) = false› (by decide +kernel)
    | walk_at "way by rule"
    | walk_at "way by form"
    | fail)
    all_goals exact kup_of hk
  | false =>
    have hi := hi rfl
    have hm : m = 0 ∨ m = 1 ∨ m = 2 ∨ m = 3 := by omega
    rcases hm with hm | hm | hm | hm <;> rw [hm] at hk hl ⊢ <;> unfold r_next_by wayD <;> (
    repeat' (first
    | exact absurd ‹false = true› (by decide)
    | exact absurd ‹true = false› (by decide)
    | with_reducible refine ix ⟨⟨by omega, by omega⟩, ?_⟩
    | exact absurd ‹decide (_ = _) = true› (by decide +kernel)
    | exact absurd ‹decide (_ = _) = false› (by decide +kernel)
    | walk_at "way by rule"
    | walk_at "way by form"
    | fail)) <;> exact kup_of hk
theorem w_begin_of (h : beginSp w es n k) : WpS K w (r_begin_of K (toSp K reachSp)) (dstart ["way"] es) n { nx := fun _ n' => kup k .non n', rt := kup k } := by
  obtain ⟨per, m, rfl, hm, hk⟩ := h
  have repR : ∀ {z j : Int} {n : Nat} {k : Kn}, 0 ≤ j → j ≤ 8 → k (.lst ((List.replicate j.toNat z).map .int)) n → RD K w rMulU (.lst [.int z]) (.int j) n k := fun {z j n k} h1 h2 hk => rd_rep (by omega) (by omega) (by simp; omega) (by rw [rep_flat]; exact hk)
  unfold r_begin_of wayD
  repeat' (first
    | exact absurd ‹false = true› (by decide)
    | exact absurd ‹true = false› (by decide)
    | refine repR (by omega) (by omega) ?_
    | walk_at "way by rule"
    | refine ⟨per, m, rfl, ?_⟩
    | walk_at "way by form"
    | fail)
  all_goals exact kup_of hk
theorem w_moved (h : movedSp w es n k) : WpS K w (r_moved K) (dstart ["last", "number"] es) n { nx := fun _ n' => kup k .non n', rt := kup k } := by
  obtain ⟨l, z, rfl, hl, hk⟩ := h
  unfold r_moved
  repeat' (first
    | exact absurd ‹false = true› (by decide)
    | exact absurd ‹true = false› (by decide)
    | with_reducible refine e_slL ?_
    | with_reducible refine a_star ?_
    | walk_at "way by rule"
    | refine ⟨_, .inl rfl, ?_⟩
    | with_reducible refine And.intro (by simp only [List.length_append, List.length_map, List.length_cons, List.length_nil]; omega) ?_
    | walk_at "way by form"
    | fail)
  · rename_i h1 _
    refine kup_of ?_
    have e : DW.cutD (l.map D.int ++ [.int z]) (some 1) none = (mv l z).map .int := by
      unfold mv
      rw [if_neg h1, show (some (1 : Int)) = some ((1 : Nat) : Int) from rfl, cutD_from (by simp), List.map_drop, List.map_append]
      rfl
    rw [e]
    exact hk
  · rename_i h1 _
    subst h1
    exact kup_of hk
theorem w_many_by (h : manySp w es n k) : WpS K w (r_many_by K (toSp K listedSp)) (dstart ["token", "many", "_"] es) n { nx := fun _ n' => kup k .non n', rt := kup k } := by
  obtain ⟨t, rfl, ok, hk⟩ := h
  cases t with
  | near z =>
    unfold r_many_by tkD
    repeat' (first
    | exact absurd ‹false = true› (by decide)
    | exact absurd ‹true = false› (by decide)
    | walk_at "way by rule"
    | walk_at "way by form"
    | fail)
    all_goals exact kup_of hk
  | run j =>
    have hj := ok j rfl
    unfold r_many_by tkD
    refine s_mid (mid := fun ds' n' => n' = n ∧ ds' = [some (.tup [.str "run", .int j]), some (.int 1), none]) ?_ ?_
    · repeat' (first
    | exact absurd ‹false = true› (by decide)
    | exact absurd ‹true = false› (by decide)
    | walk_at "way by rule"
    | walk_at "way by form"
    | fail)
      all_goals rfl
    rintro ds' n' ⟨rfl, rfl⟩
    refine s_mid (mid := fun ds' n'' => n'' = n' ∧ ∃ v2, ds' = [some (.tup [.str "run", .int j]), some (.int ((2 ^ j : Nat) : Int)), v2]) ?_ ?_
    · repeat' (first
    | exact absurd ‹false = true› (by decide)
    | exact absurd ‹true = false› (by decide)
    | exact absurd ‹decide (_ = _) = true› (by decide +kernel)
    | exact absurd ‹decide (_ = _) = false› (by decide +kernel)
    | walk_at "way by rule"
    | walk_at "way by form"
    | fail)
      refine s_for (i_rng1 ?_)
      repeat' (first
    | exact absurd ‹false = true› (by decide)
    | exact absurd ‹true = false› (by decide)
    | walk_at "way by rule"
    | refine ⟨_, rfl, by omega, by omega, ?_⟩
    | walk_at "way by form"
    | fail)
      refine ⟨fun i ds' n'' => n'' = n' ∧ ∃ v2, ds' = [some (.tup [.str "run", .int j]), some (.int ((2 ^ i : Nat) : Int)), v2], ⟨rfl, none, rfl⟩, ?_, ?_⟩
      · rintro i x ds' n'' hx ⟨rfl, v2, rfl⟩
        obtain ⟨hi, rfl⟩ := rgD_get hx
        refine ⟨_, _, g_name rfl, ?_⟩
        repeat' (first
    | exact absurd ‹false = true› (by decide)
    | exact absurd ‹true = false› (by decide)
    | walk_at "way by rule"
    | walk_at "way by form"
    | fail)
        exact ⟨_, by rw [Nat.pow_succ, Nat.mul_comm, Int.natCast_mul]; rfl⟩
      · rintro ds' n'' ⟨rfl, v2, rfl⟩
        rw [rgD_len, Int.toNat_natCast]
        exact ⟨rfl, v2, rfl⟩
    rintro ds' n'' ⟨rfl, v2, rfl⟩
    repeat' (first
    | exact absurd ‹false = true› (by decide)
    | exact absurd ‹true = false› (by decide)
    | walk_at "way by rule"
    | walk_at "way by form"
    | fail)
    all_goals exact kup_of hk
theorem w_difference_by (h : diffSp w es n k) : WpS K w (r_difference_by K (toSp K integerSp)) (dstart ["token"] es) n { nx := fun _ n' => kup k .non n', rt := kup k } := by
  obtain ⟨z, rfl, hk⟩ := h
  unfold r_difference_by
  repeat' (first
    | exact absurd ‹false = true› (by decide)
    | exact absurd ‹true = false› (by decide)
    | walk_at "way by rule"
    | walk_at "way by form"
    | fail)
  all_goals exact kup_of hk
end
end K26
set_option Elab.async false
set_option maxRecDepth 100000
set_option maxHeartbeats 4000000
set_option linter.all false
set_option autoImplicit false
/-! the numbers that tokens tell -/
namespace K26
variable [DW.Tb]
open PySem PySem.Spec PyProof.Rows L2 DW
def Tk.isR : Tk → Bool
  | .near _ => false
  | .run _ => true
abbrev foreSp : DSpW := fun w es n k => ∃ per m nd f, es = [wayD per m, nd] ∧ WayOk per m ∧ IsNs nd f ∧ f.length ≤ 50000 ∧ k (.int (nx per m f)) n
abbrev howSp : DSpW := fun w es n k => ∃ ts : List Tk, es = [.lst (ts.map tkD)] ∧ ts.length ≤ 50000 ∧ (∀ t ∈ ts, TkOk t) ∧ k (.int (manyAll ts)) n
abbrev numsSp : DSpW := fun w es n k => ∃ per m ts, es = [wayD per m, .lst (ts.map tkD)] ∧ WayOk per m ∧ ts.length ≤ 50000 ∧ (∀ t ∈ ts, TkOk t) ∧ manyAll ts ≤ 50000 ∧ k (.tup ((numsOf per m ts).map .int)) n
theorem map_yes {α β : Type} {l : List α} {f : α → β} : (l.filter fun _ => true).map f = l.map f := by rw [List.filter_eq_self.mpr fun _ _ => rfl]
theorem many_take {ts : List Tk} {i : Nat} {t : Tk} (h : ts[i]? = some t) : manyAll (ts.take i) + t.many ≤ manyAll ts := by
  obtain ⟨h1, h2⟩ := List.getElem?_eq_some_iff.mp h
  have e : ts = ts.take i ++ t :: ts.drop (i + 1) := by
    have := List.take_append_drop i ts
    rw [List.drop_eq_getElem_cons h1, h2] at this
    exact this.symm
  conv => rhs; rw [e]
  unfold manyAll
  rw [List.map_append, List.sum_append, List.map_cons, List.sum_cons]
  omega
theorem many_isR {t : Tk} (h : TkOk t) : decide ((1 : Int) < (t.many : Int)) = t.isR := by
  cases t with
  | near z => rfl
  | run j =>
    have hj := (h j rfl).1
    have : 2 ^ 1 ≤ 2 ^ j := Nat.pow_le_pow_right (by decide) hj
    exact decide_eq_true (by show (1 : Int) < ((2 ^ j : Nat) : Int); omega)
section
variable {K : PySem.W.Frag} {w : Option Addr} {n : Nat} {k : Kn} {es : List D} {C : Addr}
theorem cast_sum : ∀ ts : List Tk, (ts.map fun t => (t.many : Int)).sum = (manyAll ts : Int)
  | [] => rfl
  | t :: ts => by
    unfold manyAll
    rw [List.map_cons, List.sum_cons, cast_sum ts, List.map_cons, List.sum_cons]
    unfold manyAll
    omega
theorem rc_sumM {α : Type} {l : List α} {f : α → Int} (hk : k (.int (l.map f).sum) n) : RC K w (rSumU K) [.lst ((l.filter fun _ => true).map fun x => D.int (f x))] n k := by
  rw [map_yes, show (l.map fun x => D.int (f x)) = (l.map f).map D.int by rw [List.map_map]; rfl]
  exact rc_sum hk
theorem w_how_many (h : howSp w es n k) : WpS K w (r_how_many K (toSp K needTkSp) (toSp K manySp)) (dstart ["tokens", "token"] es) n { nx := fun _ n' => kup k .non n', rt := kup k } := by
  obtain ⟨ts, rfl, hl, ok, hk⟩ := h
  unfold r_how_many
  repeat' (first
    | exact absurd ‹false = true› (by decide)
    | exact absurd ‹true = false› (by decide)
    | (with_reducible refine rc_sumM ?_)
    | (guard_target =~ WpE _ _ _ _ _ _; first | ((with_reducible refine e_lcGX ⟨tkD, fun _ => true, fun t => .int (t.many : Int), tk_own, ?_⟩)) | ((with_reducible refine e_varX ?_); refine ⟨_, rfl, tk_own _, ?_⟩))
    | walk_at "way by rule"
    | refine ⟨_, ts, rfl, by omega, ok, ?_⟩
    | refine ⟨ts, rfl, by omega, fun z hz => ?_, ?_⟩
    | refine ⟨_, rfl, ok _ ‹_›, ?_⟩
    | walk_at "way by form"
    | fail)
  all_goals (rw [cast_sum]; exact kup_of hk)
theorem w_numbers_of (h : numsSp w es n k) : WpS K w (r_numbers_of K (toSp K needWaySp) (toSp K howSp) (toSp K beginSp) (toSp K manySp) (toSp K nextSp) (toSp K diffSp) (toSp K movedSp)) (dstart ["way", "tokens", "found", "last", "token", "is_run", "_", "number"] es) n { nx := fun _ n' => kup k .non n', rt := kup k } := by
  obtain ⟨per, m, ts, rfl, ok, hl, tok, hm, hk⟩ := h
  have k8 := ok.k8
  unfold r_numbers_of
  refine s_mid (mid := fun ds' n' => n' = n ∧ ds' = [some (wayD per m), some (.lst (ts.map tkD)), none, none, none, none, none, none]) ?_ ?_
  · repeat' (first
    | exact absurd ‹false = true› (by decide)
    | exact absurd ‹true = false› (by decide)
    | walk_at "way by rule"
    | refine ⟨_, _, per, m, rfl, ⟨ok, .inl rfl⟩, ?_⟩
    | walk_at "way by form"
    | fail)
    all_goals rfl
  rintro ds' n' ⟨rfl, rfl⟩
  refine s_mid (mid := fun ds' n'' => n'' = n' ∧ ds' = [some (wayD per m), some (.lst (ts.map tkD)), none, none, none, none, none, none]) ?_ ?_
  · repeat' (first
    | exact absurd ‹false = true› (by decide)
    | exact absurd ‹true = false› (by decide)
    | exact absurd (of_decide_eq_true ‹decide ((100000 : Int) < (manyAll ts : Int)) = true›) (by omega)
    | walk_at "way by rule"
    | refine ⟨ts, rfl, hl, tok, ?_⟩
    | walk_at "way by form"
    | fail)
    all_goals rfl
  rintro ds' n'' ⟨rfl, rfl⟩
  refine s_mid (mid := fun ds' n1 => n1 = n'' ∧ ds' = [some (wayD per m), some (.lst (ts.map tkD)), some (.own []), some (.lst ((lastK m []).map .int)), none, none, none, none]) (s_parOE (by decide) rfl (f_lst (a_nil ⟨by simp, ?_⟩))) ?_
  · repeat' (first
    | exact absurd ‹false = true› (by decide)
    | exact absurd ‹true = false› (by decide)
    | walk_at "way by rule"
    | refine ⟨per, m, rfl, k8, ?_⟩
    | walk_at "way by form"
    | fail)
    have e : lastK m [] = List.replicate m 0 := by unfold lastK; simp
    rw [e]
    first | rfl | exact ⟨rfl, rfl⟩ | exact ⟨rfl, rfl, rfl⟩
  rintro ds' n1 ⟨rfl, rfl⟩
  refine s_mid (mid := fun ds' n2 => n2 = n1 ∧ ∃ v3 v4 v5 v6 v7, ds' = [some (wayD per m), some (.lst (ts.map tkD)), some (.own ((numsOf per m ts).map .int)), v3, v4, v5, v6, v7]) (s_for (i_listV ⟨_, rfl, ?_⟩)) ?_
  · refine ⟨fun i ds' n2 => n2 = n1 ∧ ∃ v4 v5 v6 v7, ds' = [some (wayD per m), some (.lst (ts.map tkD)), some (.own (((ts.take i).foldl (tell per m) []).map .int)), some (.lst ((lastK m ((ts.take i).foldl (tell per m) [])).map .int)), v4, v5, v6, v7], ⟨rfl, none, none, none, none, rfl⟩, ?_, ?_⟩
    · rintro i x ds' n2 hx ⟨rfl, v4, v5, v6, v7, rfl⟩
      rw [List.getElem?_map] at hx
      obtain ⟨t, ht, rfl⟩ := Option.map_eq_some_iff.mp hx
      have okt := tok t (List.mem_of_getElem? ht)
      have mt := many_take ht
      have fl := foldl_len (per := per) (k := m) (ts.take i) []
      have tf := take_foldl (per := per) (k := m) ht
      generalize hf : (ts.take i).foldl (tell per m) [] = f at *
      have fl : f.length ≤ manyAll (ts.take i) := by rw [fl]; simp
      refine ⟨_, _, g_name (tk_own t), ?_⟩
      refine s_mid (mid := fun ds' n3 => n3 = n2 ∧ ds' = [some (wayD per m), some (.lst (ts.map tkD)), some (.own (f.map .int)), some (.lst ((lastK m f).map .int)), some (tkD t), some (.bl t.isR), v6, v7]) ?_ ?_
      · repeat' (first
    | exact absurd ‹false = true› (by decide)
    | exact absurd ‹true = false› (by decide)
    | ((with_reducible refine e_varX ?_); refine ⟨_, rfl, tk_own _, ?_⟩)
    | walk_at "way by rule"
    | refine ⟨t, rfl, okt, ?_⟩
    | walk_at "way by form"
    | fail)
        all_goals (rw [many_isR okt]; first | rfl | exact ⟨rfl, rfl⟩ | exact ⟨rfl, rfl, rfl⟩)
      rintro ds' n3 ⟨rfl, rfl⟩
      refine s_for (i_rng1 ?_)
      repeat' (first
    | exact absurd ‹false = true› (by decide)
    | exact absurd ‹true = false› (by decide)
    | ((with_reducible refine e_varX ?_); refine ⟨_, rfl, tk_own _, ?_⟩)
    | walk_at "way by rule"
    | refine ⟨t, rfl, okt, ?_⟩
    | refine ⟨_, rfl, by omega, by omega, ?_⟩
    | walk_at "way by form"
    | fail)
      refine ⟨fun q ds' n4 => n4 = n3 ∧ ∃ v6 v7, ds' = [some (wayD per m), some (.lst (ts.map tkD)), some (.own ((grow per m t.diff f q).map .int)), some (.lst ((lastK m (grow per m t.diff f q)).map .int)), some (tkD t), some (.bl t.isR), v6, v7], ⟨rfl, v6, v7, rfl⟩, ?_, ?_⟩
      · rintro q x ds' n4 hx ⟨rfl, v6, v7, rfl⟩
        obtain ⟨hq, rfl⟩ := rgD_get hx
        have hq : q < t.many := by simpa using hq
        have gl := grow_len (per := per) (k := m) (d := t.diff) (f := f) q
        have gs : grow per m t.diff f (q + 1) = grow per m t.diff f q ++ [nx per m (grow per m t.diff f q) + t.diff] := rfl
        generalize grow per m t.diff f q = g at *
        have gl2 : g.length ≤ 50000 := by omega
        refine ⟨_, _, g_name rfl, ?_⟩
        refine s_mid (mid := fun ds' n5 => n5 = n4 ∧ ds' = [some (wayD per m), some (.lst (ts.map tkD)), some (.own (g.map .int)), some (.lst ((lastK m g).map .int)), some (tkD t), some (.bl t.isR), some (.int (0 + (q : Int))), some (.int (nx per m g + t.diff))]) ?_ ?_
        · cases t with
          | near z =>
            repeat' (first
    | exact absurd ‹false = true› (by decide)
    | exact absurd ‹true = false› (by decide)
    | walk_at "way by rule"
    | refine ⟨per, m, lastK m g, rfl, ok, lastK_len, ?_⟩
    | refine ⟨z, rfl, ?_⟩
    | walk_at "way by form"
    | fail)
            all_goals rfl
          | run j =>
            repeat' (first
    | exact absurd ‹false = true› (by decide)
    | exact absurd ‹true = false› (by decide)
    | walk_at "way by rule"
    | refine ⟨per, m, lastK m g, rfl, ok, lastK_len, ?_⟩
    | walk_at "way by form"
    | fail)
            all_goals rfl
        rintro ds' n5 ⟨rfl, rfl⟩
        repeat' (first
    | exact absurd ‹false = true› (by decide)
    | exact absurd ‹true = false› (by decide)
    | walk_at "way by rule"
    | refine ⟨lastK m g, _, rfl, by rw [lastK_len]; omega, ?_⟩
    | walk_at "way by form"
    | fail)
        all_goals exact ⟨_, _, by rw [gs, ← mv_last, List.map_append]; rfl⟩
      · rintro ds' n4 ⟨rfl, v6, v7, rfl⟩
        rw [rgD_len, Int.toNat_natCast]
        exact ⟨rfl, _, _, _, _, by rw [tf]; rfl⟩
    · rintro ds' n2 ⟨rfl, v4, v5, v6, v7, rfl⟩
      rw [List.length_map, List.take_length]
      exact ⟨rfl, _, _, _, _, _, rfl⟩
  rintro ds' n2 ⟨rfl, v3, v4, v5, v6, v7, rfl⟩
  refine s_freeze (i := 2) rfl ?_
  repeat' (first
    | exact absurd ‹false = true› (by decide)
    | exact absurd ‹true = false› (by decide)
    | walk_at "way by rule"
    | walk_at "way by form"
    | fail)
  all_goals exact kup_of hk
end
end K26
set_option Elab.async false
set_option maxRecDepth 100000
set_option maxHeartbeats 4000000
set_option linter.all false
set_option autoImplicit false
/-! what is foretold; the law's own numbers and ways -/
namespace K26
variable [DW.Tb]
open PySem PySem.Spec PyProof.Rows L2 DW
abbrev lnextSp : DSpW := fun w es n k => ∃ per m nd f, es = [wayD per m, nd] ∧ WayOk per m ∧ IsNs nd f ∧ f.length ≤ 50000 ∧ k (.int (nx per m f)) n
abbrev lnumsSp : DSpW := fun w es n k => ∃ (per : Bool) (m : Nat) (zs : List Int), es = [wayD per m, .lst (zs.map .int)] ∧ WayOk per m ∧ zs.length ≤ 1000 ∧ k (.lst ((numsOf per m (zs.map .near)).map .int)) n
abbrev lwaySp : DSpW := fun w es n k => ∃ p : Addr, w = some p ∧ es = [.raw (.ref p), .str "values"] ∧ n < 2 ^ 19 ∧ ∀ per m, WayOk per m → k (wayD per m) (n + 2)
def diffs (l : List Int) : List Int := (l.zip (l.drop 1)).map fun x => x.2 - x.1
def diffsN (l : List Int) : Nat → List Int
  | 0 => l
  | n + 1 => diffs (diffsN l n)
theorem diffsN_len {l : List Int} : ∀ n, (diffsN l n).length ≤ l.length
  | 0 => Nat.le_refl _
  | n + 1 => by
    have := diffsN_len (l := l) n
    show (diffs _).length ≤ _
    unfold diffs
    rw [List.length_map, List.length_zip]
    omega
abbrev ldiffSp : DSpW := fun w es n k => ∃ (l : List Int) (m : Nat), es = [.lst (l.map .int), .int m] ∧ l.length ≤ 50000 ∧ m ≤ 8 ∧ k (.lst ((diffsN l m).map .int)) n
theorem lastK_getD {m : Nat} {f : List Int} {i : Nat} : (lastK m f).getD i 0 = (List.replicate m 0 ++ f).getD (f.length + i) 0 := by
  unfold lastK
  rw [List.getD_eq_getElem?_getD, List.getElem?_drop, List.getD_eq_getElem?_getD]
section
variable {K : PySem.W.Frag} {w : Option Addr} {n : Nat} {k : Kn} {es : List D} {C : Addr}
theorem w_foretold (h : foreSp w es n k) : WpS K w (r_foretold K (toSp K needWaySp) (toSp K listedSp) (toSp K integerSp) (toSp K reachSp) (toSp K nextSp) (toSp K beginSp)) (dstart ["way", "numbers", "reach", "number"] es) n { nx := fun _ n' => kup k .non n', rt := kup k } := by
  obtain ⟨per, m, nd, f, rfl, ok, hd, hl, hk⟩ := h
  have k8 := ok.k8
  have e : DW.cutD ((List.replicate m 0).map D.int ++ f.map D.int) (some ((f.map D.int).length : Int)) none = (lastK m f).map .int := by
    rw [List.length_map, ← List.map_append, cutD_from (by simp), ← List.map_drop]
    rfl
  rcases hd with rfl | rfl <;> unfold r_foretold <;> (
  repeat' (first
    | exact absurd ‹false = true› (by decide)
    | exact absurd ‹true = false› (by decide)
    | (rw [List.append_nil, e]; refine ⟨per, m, lastK m f, rfl, ok, lastK_len, ?_⟩)
    | (rw [e]; refine ⟨per, m, lastK m f, rfl, ok, lastK_len, ?_⟩)
    | (guard_target =~ WpE _ _ _ _ _ _; first | (with_reducible refine e_lcIX ⟨fun _ => true, fun _ => .bl true, ?_⟩) | with_reducible refine e_slL ?_)
    | with_reducible refine a_star ?_
    | walk_at "way by rule"
    | refine ⟨_, _, per, m, rfl, ⟨ok, .inl rfl⟩, ?_⟩
    | refine ⟨f, rfl, by omega, fun z hz => ?_, ?_⟩
    | refine ⟨per, m, rfl, k8, ?_⟩
    | refine ⟨per, m, rfl, ?_⟩
    | refine ⟨_, .inl rfl, ?_⟩
    | refine ⟨_, .inr rfl, ?_⟩
    | with_reducible refine And.intro (by simp only [List.length_append, List.length_map, List.length_cons, List.length_nil, List.length_replicate]; omega) ?_
    | walk_at "way by form"
    | fail))
  all_goals first
    | exact kup_of hk
    | (rename_i q
       have q := of_decide_eq_false q
       have z : m = 0 := by omega
       subst z
       cases per with
       | true => have := (ok.lo rfl).1; omega
       | false => exact kup_of hk)
theorem w__law_way (h : lwaySp w es n k) : WpS K w (r__law_way K (toSp K drawSp)) (dstart ["pen", "lane"] es) n { nx := fun _ n' => kup k .non n', rt := kup k } := by
  obtain ⟨p, rfl, rfl, hn, hk⟩ := h
  unfold r__law_way
  repeat' (first
    | exact absurd ‹false = true› (by decide)
    | exact absurd ‹true = false› (by decide)
    | exact absurd ‹decide (_ = _) = true› (by decide +kernel)
    | walk_at "way by rule"
    | (refine ⟨p, _, rfl, rfl, by omega, by omega, by omega, fun y y0 y1 => ?_⟩)
    | walk_at "way by form"
    | fail)
  · obtain ⟨j, rfl⟩ := Int.eq_ofNat_of_zero_le ‹0 ≤ y›
    exact ⟨n + 2, by omega, hk false j ⟨fun z => (nomatch z), fun _ => by omega⟩⟩
  · obtain ⟨j, rfl⟩ := Int.eq_ofNat_of_zero_le ‹0 ≤ y›
    have e : (1 : Int) + (j : Int) = ((1 + j : Nat) : Int) := by omega
    rw [e]
    exact ⟨n + 2, by omega, hk true (1 + j) ⟨fun _ => by omega, fun z => (nomatch z)⟩⟩
theorem lastK8 {m i : Nat} {f : List Int} (hi : i < m) (hm : m ≤ 8) : (lastK m f).getD i 0 = (List.replicate 8 0 ++ f).getD (8 + f.length - m + i) 0 := by
  rw [lastK_getD]
  have e : (List.replicate 8 0 ++ f : List Int) = List.replicate (8 - m) 0 ++ (List.replicate m 0 ++ f) := by
    rw [← List.append_assoc, List.replicate_append_replicate, show 8 - m + m = 8 by omega]
  rw [e, List.getD_eq_getElem?_getD, List.getD_eq_getElem?_getD, List.getElem?_append_right (l₁ := List.replicate (8 - m) 0) (by rw [List.length_replicate]; omega), List.length_replicate]
  congr 2
  omega
theorem atI_neg {ns : List Int} {j : Nat} (h1 : 1 ≤ j) (h2 : j ≤ ns.length) : atI (ns.map D.int) (-(j : Int)) = some (.int (ns.getD (ns.length - j) 0)) := by
  unfold atI
  have e : ixN (ns.map D.int).length (-(j : Int)) = some (ns.length - j) := by
    rw [List.length_map]
    unfold ixN
    rw [if_neg (by omega), if_pos (by omega)]
    congr 1
    omega
  rw [e]
  exact getD_map ns (ns.length - j) (by omega)
theorem w__law_next (h : lnextSp w es n k) : WpS K w (r__law_next K) (dstart ["way", "numbers", "some", "last", "other", "third"] es) n { nx := fun _ n' => kup k .non n', rt := kup k } := by
  obtain ⟨per, m, nd, f, rfl, ok, hd, hl, hk⟩ := h
  have k8 := ok.k8
  have repR : ∀ {z j : Int} {n : Nat} {k : Kn}, 0 ≤ j → j ≤ 8 → k (.lst ((List.replicate j.toNat z).map .int)) n → RD K w rMulU (.lst [.int z]) (.int j) n k := fun {z j n k} h1 h2 hk => rd_rep (by omega) (by omega) (by simp; omega) (by rw [rep_flat]; exact hk)
  have lstR : ∀ {k : Kn} {n : Nat}, k (.lst (f.map .int)) n → RC K w (rListU K) [nd] n k := fun {k n} hk => by
    rcases hd with rfl | rfl
    · exact rc_listL hk
    · exact rc_listT hk
  have ho := hd.own
  unfold r__law_next
  refine s_mid (mid := fun ds' n' => n' = n ∧ ds' = [some (wayD per m), some nd, some (.lst ((List.replicate 8 0 ++ f).map .int)), none, none, none]) ?_ ?_
  · repeat' (first
    | exact absurd ‹false = true› (by decide)
    | exact absurd ‹true = false› (by decide)
    | refine repR (by omega) (by omega) ?_
    | with_reducible refine lstR ?_
    | ((with_reducible refine e_varX ?_); refine ⟨_, rfl, ho, ?_⟩)
    | walk_at "way by rule"
    | with_reducible refine And.intro (by simp only [List.length_append, List.length_map, List.length_cons, List.length_nil, List.length_replicate]; omega) ?_
    | walk_at "way by form"
    | fail)
    all_goals (rw [← List.map_append]; rfl)
  rintro ds' n' ⟨rfl, rfl⟩
  have L8 : (List.replicate 8 0 ++ f : List Int).length = 8 + f.length := by rw [List.length_append, List.length_replicate]
  generalize hS : (List.replicate 8 0 ++ f : List Int) = S at *
  have neg : ∀ {j : Nat} {n : Nat} {k : Kn}, 1 ≤ j → j ≤ 8 → k (.int (S.getD (S.length - j) 0)) n → RD K w (rIx K) (.lst (S.map .int)) (.int (-(j : Int))) n k := fun {j n k} h1 h2 hk => rd_ixL (atI_neg h1 (by omega)) hk
  cases per with
  | true =>
    have lo := ok.lo rfl
    have e : nx true m f = S.getD (8 + f.length - m) 0 := by
      have := lastK8 (m := m) (i := 0) (f := f) (by omega) k8
      rw [hS] at this
      exact this
    have ixS : ∀ {n : Nat} {k : Kn}, k (.int (nx true m f)) n → RD K w (rIx K) (.lst (S.map .int)) (.int (((S.map D.int).length : Int) - (m : Int))) n k := fun {n k} hk => by
      have : ((S.map D.int).length : Int) - (m : Int) = ((8 + f.length - m : Nat) : Int) := by rw [List.length_map]; omega
      rw [this]
      exact rd_ixL (atI_nat (getD_map S _ (by omega))) (by rw [← e]; exact hk)
    unfold wayD
    repeat' (first
    | exact absurd ‹false = true› (by decide)
    | exact absurd ‹true = false› (by decide)
    | with_reducible refine ixS ?_
    | exact absurd ‹decide (_ = _) = false› (by decide +kernel)
    | walk_at "way by rule"
    | walk_at "way by form"
    | fail)
    all_goals exact kup_of hk
  | false =>
    have hi := ok.hi rfl
    have g : ∀ i, i < m → (lastK m f).getD i 0 = S.getD (8 + f.length - m + i) 0 := fun i hi' => by
      have := lastK8 (m := m) (i := i) (f := f) hi' k8
      rw [hS] at this
      exact this
    have hm : m = 0 ∨ m = 1 ∨ m = 2 ∨ m = 3 := by omega
    rcases hm with hm | hm | hm | hm <;> rw [hm] at hk g ⊢ <;> unfold wayD <;> (
    repeat' (first
    | exact absurd ‹false = true› (by decide)
    | exact absurd ‹true = false› (by decide)
    | refine neg (j := 1) (by decide) (by decide) ?_
    | refine neg (j := 2) (by decide) (by decide) ?_
    | refine neg (j := 3) (by decide) (by decide) ?_
    | exact absurd ‹decide (_ = _) = true› (by decide +kernel)
    | walk_at "way by rule"
    | walk_at "way by form"
    | fail))
    · exact kup_of hk
    · have e0 := g 0 (by decide)
      rw [show 8 + f.length - 1 + 0 = S.length - 1 by omega] at e0
      have v : nx false 1 f = S.getD (S.length - 1) 0 := by
        show (lastK 1 f).getD 0 0 = _
        exact e0
      rw [v] at hk
      exact kup_of hk
    · have e0 := g 0 (by decide)
      have e1 := g 1 (by decide)
      rw [show 8 + f.length - 2 + 0 = S.length - 2 by omega] at e0
      rw [show 8 + f.length - 2 + 1 = S.length - 1 by omega] at e1
      have v : nx false 2 f = S.getD (S.length - 1) 0 + (S.getD (S.length - 1) 0 - S.getD (S.length - 2) 0) := by
        show 2 * (lastK 2 f).getD 1 0 - (lastK 2 f).getD 0 0 = _
        rw [e0, e1]
        omega
      rw [v] at hk
      exact kup_of hk
    · have e0 := g 0 (by decide)
      have e1 := g 1 (by decide)
      have e2 := g 2 (by decide)
      rw [show 8 + f.length - 3 + 0 = S.length - 3 by omega] at e0
      rw [show 8 + f.length - 3 + 1 = S.length - 2 by omega] at e1
      rw [show 8 + f.length - 3 + 2 = S.length - 1 by omega] at e2
      have v : nx false 3 f = S.getD (S.length - 1) 0 + (S.getD (S.length - 1) 0 - S.getD (S.length - 2) 0) + (S.getD (S.length - 1) 0 - 2 * S.getD (S.length - 2) 0 + S.getD (S.length - 3) 0) := by
        show 3 * (lastK 3 f).getD 2 0 - 3 * (lastK 3 f).getD 1 0 + (lastK 3 f).getD 0 0 = _
        rw [e0, e1, e2]
        omega
      rw [v] at hk
      exact kup_of hk
theorem nums_take {per : Bool} {m : Nat} {zs : List Int} {i : Nat} {z : Int} (h : zs[i]? = some z) : numsOf per m ((zs.take (i + 1)).map .near) = numsOf per m ((zs.take i).map .near) ++ [nx per m (numsOf per m ((zs.take i).map .near)) + z] := by
  have h2 : (zs.map Tk.near)[i]? = some (.near z) := by rw [List.getElem?_map, h]; rfl
  have := take_foldl (per := per) (k := m) h2
  rw [← List.map_take, ← List.map_take] at this
  exact this
theorem w__law_numbers (h : lnumsSp w es n k) : WpS K w (r__law_numbers K (toSp K lnextSp)) (dstart ["way", "tokens", "found", "token", "word", "turn", "more"] es) n { nx := fun _ n' => kup k .non n', rt := kup k } := by
  obtain ⟨per, m, zs, rfl, ok, hl, hk⟩ := h
  unfold r__law_numbers
  refine s_mid (mid := fun ds' n' => n' = n ∧ ds' = [some (wayD per m), some (.lst (zs.map .int)), some (.own []), none, none, none, none]) (s_own (f_lst (a_nil ⟨by simp, rfl, rfl⟩))) ?_
  rintro ds' n' ⟨rfl, rfl⟩
  refine s_mid (mid := fun ds' n2 => n2 = n' ∧ ∃ v3 v4 v5 v6, ds' = [some (wayD per m), some (.lst (zs.map .int)), some (.own ((numsOf per m (zs.map .near)).map .int)), v3, v4, v5, v6]) (s_for (i_listV ⟨_, rfl, ?_⟩)) ?_
  · refine ⟨fun i ds' n2 => n2 = n' ∧ ∃ v3 v4 v5 v6, ds' = [some (wayD per m), some (.lst (zs.map .int)), some (.own ((numsOf per m ((zs.take i).map .near)).map .int)), v3, v4, v5, v6], ⟨rfl, none, none, none, none, rfl⟩, ?_, ?_⟩
    · rintro i x ds' n2 hx ⟨rfl, v3, v4, v5, v6, rfl⟩
      rw [List.getElem?_map] at hx
      obtain ⟨z, hz, rfl⟩ := Option.map_eq_some_iff.mp hx
      have tf := nums_take (per := per) (m := m) hz
      have gl : (numsOf per m ((zs.take i).map .near)).length ≤ 50000 := by
        rw [numsOf_len]
        have : ∀ l : List Int, manyAll (l.map .near) = l.length := fun l => by
          unfold manyAll
          induction l with
          | nil => rfl
          | cons a l ih => rw [List.map_cons, List.map_cons, List.sum_cons, ih, List.length_cons]; show 1 + l.length = _; omega
        rw [this, List.length_take]
        omega
      generalize numsOf per m ((zs.take i).map .near) = g at *
      refine ⟨_, _, g_name rfl, ?_⟩
      refine s_mid (mid := fun ds' n3 => n3 = n2 ∧ ds' = [some (wayD per m), some (.lst (zs.map .int)), some (.own (g.map .int)), some (.int z), some (.str "near"), v5, v6]) ?_ ?_
      · repeat' (first
    | exact absurd ‹false = true› (by decide)
    | exact absurd ‹true = false› (by decide)
    | walk_at "way by rule"
    | walk_at "way by form"
    | fail)
        all_goals rfl
      rintro ds' n3 ⟨rfl, rfl⟩
      refine s_for (i_rng1 ?_)
      repeat' (first
    | exact absurd ‹false = true› (by decide)
    | exact absurd ‹true = false› (by decide)
    | exact absurd ‹decide (_ = _) = true› (by decide +kernel)
    | walk_at "way by rule"
    | refine ⟨1, rfl, by decide, by decide, ?_⟩
    | walk_at "way by form"
    | fail)
      refine ⟨fun q ds' n4 => n4 = n3 ∧ ∃ v5 v6, ds' = [some (wayD per m), some (.lst (zs.map .int)), some (.own ((if q = 0 then g else g ++ [nx per m g + z]).map .int)), some (.int z), some (.str "near"), v5, v6], ⟨rfl, v5, v6, rfl⟩, ?_, ?_⟩
      · rintro q x ds' n4 hx ⟨rfl, v5, v6, rfl⟩
        obtain ⟨hq, rfl⟩ := rgD_get hx
        have hq : q = 0 := by have : q < 1 := hq; omega
        subst hq
        refine ⟨_, _, g_name rfl, ?_⟩
        refine s_mid (mid := fun ds' n5 => n5 = n4 ∧ ds' = [some (wayD per m), some (.lst (zs.map .int)), some (.own (g.map .int)), some (.int z), some (.str "near"), some (.int (0 + ((0 : Nat) : Int))), some (.int z)]) ?_ ?_
        · repeat' (first
    | exact absurd ‹false = true› (by decide)
    | exact absurd ‹true = false› (by decide)
    | exact absurd ‹decide (_ = _) = true› (by decide +kernel)
    | walk_at "way by rule"
    | walk_at "way by form"
    | fail)
          all_goals rfl
        rintro ds' n5 ⟨rfl, rfl⟩
        repeat' (first
    | exact absurd ‹false = true› (by decide)
    | exact absurd ‹true = false› (by decide)
    | (refine e_callOwnI rfl ?_)
    | walk_at "way by rule"
    | (refine ⟨per, m, _, g, rfl, ok, .inl rfl, gl, ?_⟩)
    | walk_at "way by form"
    | fail)
        all_goals exact ⟨_, _, by rw [if_neg (by decide), List.map_append]; rfl⟩
      · rintro ds' n4 ⟨rfl, v5, v6, rfl⟩
        exact ⟨rfl, _, _, _, _, by rw [tf]; rfl⟩
    · rintro ds' n2 ⟨rfl, v3, v4, v5, v6, rfl⟩
      rw [List.length_map, List.take_length]
      exact ⟨rfl, _, _, _, _, rfl⟩
  rintro ds' n2 ⟨rfl, v3, v4, v5, v6, rfl⟩
  exact s_retOwn rfl (kup_of hk)
end
end K26
set_option Elab.async false
set_option maxRecDepth 100000
set_option maxHeartbeats 4000000
set_option linter.all false
set_option autoImplicit false
/-! plain: what a run behind drawn numbers keeps -/
namespace K26
variable [DW.Tb]
open DW
theorem grow_take {per : Bool} {k : Nat} {d : Int} {f : List Int} : ∀ (n q : Nat), q ≤ n → (grow per k d f n).take (f.length + q) = grow per k d f q
  | 0, q, h => by
    have : q = 0 := by omega
    subst this
    show f.take (f.length + 0) = f
    rw [Nat.add_zero, List.take_length]
  | n + 1, q, h => by
    by_cases e : q = n + 1
    · subst e
      rw [List.take_of_length_le (by rw [grow_len]; omega)]
    · show (grow per k d f n ++ [_]).take _ = _
      rw [List.take_append_of_le_length (by rw [grow_len]; omega), grow_take n q (by omega)]
theorem grow_get {per : Bool} {k : Nat} {d : Int} {f : List Int} {n q : Nat} (h : q < n) : (grow per k d f n).getD (f.length + q) 0 = nx per k (grow per k d f q) + d := by
  have e := grow_take (per := per) (k := k) (d := d) (f := f) n (q + 1) (by omega)
  have e2 : grow per k d f (q + 1) = grow per k d f q ++ [nx per k (grow per k d f q) + d] := rfl
  have g : (grow per k d f n).getD (f.length + q) 0 = ((grow per k d f n).take (f.length + (q + 1))).getD (f.length + q) 0 := by
    rw [List.getD_eq_getElem?_getD, List.getD_eq_getElem?_getD, List.getElem?_take, if_pos (by omega)]
  rw [g, e, e2, List.getD_eq_getElem?_getD, List.getElem?_append_right (by rw [grow_len]; omega), grow_len, Nat.sub_self]
  rfl
/-- drawn numbers and a run behind them -/
def ranOf (per : Bool) (m : Nat) (zs : List Int) (j : Nat) : List Int := numsOf per m (zs.map .near ++ [.run j])
theorem ran_eq {per : Bool} {m : Nat} {zs : List Int} {j : Nat} : ranOf per m zs j = grow per m 0 (numsOf per m (zs.map .near)) (2 ^ j) := by
  unfold ranOf numsOf
  rw [List.foldl_append]
  rfl
theorem many_near : ∀ l : List Int, manyAll (l.map .near) = l.length
  | [] => rfl
  | a :: l => by
    have := many_near l
    unfold manyAll at *
    rw [List.map_cons, List.map_cons, List.sum_cons, this, List.length_cons]
    show 1 + l.length = _
    omega
theorem near_len {per : Bool} {m : Nat} {zs : List Int} : (numsOf per m (zs.map .near)).length = zs.length := by rw [numsOf_len, many_near]
theorem ran_len {per : Bool} {m : Nat} {zs : List Int} {j : Nat} : (ranOf per m zs j).length = zs.length + 2 ^ j := by rw [ran_eq, grow_len, near_len]
theorem ran_take {per : Bool} {m : Nat} {zs : List Int} {j : Nat} : (ranOf per m zs j).take zs.length = numsOf per m (zs.map .near) := by
  have := grow_take (per := per) (k := m) (d := 0) (f := numsOf per m (zs.map .near)) (2 ^ j) 0 (Nat.zero_le _)
  rw [near_len, Nat.add_zero] at this
  rw [ran_eq]
  exact this
/-- a run's number by the ones ahead of it -/
theorem ran_get {per : Bool} {m : Nat} {zs : List Int} {j q : Nat} (h : q < 2 ^ j) : (ranOf per m zs j).getD (zs.length + q) 0 = nx per m ((ranOf per m zs j).take (zs.length + q)) := by
  have e1 := grow_get (per := per) (k := m) (d := 0) (f := numsOf per m (zs.map .near)) h
  have e2 := grow_take (per := per) (k := m) (d := 0) (f := numsOf per m (zs.map .near)) (2 ^ j) q (by omega)
  rw [near_len] at e1 e2
  rw [ran_eq, e1, e2, Int.add_zero]
/-- the numbers with noughts ahead -/
def aheadOf (m : Nat) (f : List Int) : List Int := List.replicate m 0 ++ f
theorem ahead_last {m : Nat} {f : List Int} {i p : Nat} (hp : p ≤ f.length) (hi : i < m) : (lastK m (f.take p)).getD i 0 = (aheadOf m f).getD (p + i) 0 := by
  rw [lastK_getD, List.length_take, Nat.min_eq_left hp]
  unfold aheadOf
  by_cases h : p + i < m
  · rw [List.getD_eq_getElem?_getD, List.getD_eq_getElem?_getD, List.getElem?_append_left (by simpa using h), List.getElem?_append_left (by simpa using h)]
  · rw [List.getD_eq_getElem?_getD, List.getD_eq_getElem?_getD, List.getElem?_append_right (by rw [List.length_replicate]; omega), List.getElem?_append_right (by rw [List.length_replicate]; omega), List.length_replicate, List.getElem?_take, if_pos (by omega)]
theorem ahead_get {m i : Nat} {f : List Int} : (aheadOf m f).getD (m + i) 0 = f.getD i 0 := by
  unfold aheadOf
  rw [List.getD_eq_getElem?_getD, List.getElem?_append_right (by rw [List.length_replicate]; omega), List.length_replicate, Nat.add_sub_cancel_left, List.getD_eq_getElem?_getD]
theorem ahead_len {m : Nat} {f : List Int} : (aheadOf m f).length = m + f.length := by unfold aheadOf; simp
/-- a run by a period comes again -/
theorem ran_period {m : Nat} {zs : List Int} {j p : Nat} (hm : 1 ≤ m) (h1 : zs.length + m ≤ p) (h2 : p < m + (zs.length + 2 ^ j)) : (aheadOf m (ranOf true m zs j)).getD p 0 = (aheadOf m (ranOf true m zs j)).getD (p - m) 0 := by
  obtain ⟨q, rfl⟩ : ∃ q, p = m + (zs.length + q) := ⟨p - m - zs.length, by omega⟩
  rw [ahead_get, ran_get (by omega)]
  show (lastK m _).getD 0 0 = _
  rw [ahead_last (by rw [ran_len]; omega) (by omega)]
  congr 1
  omega
theorem diffs_len {l : List Int} : (diffs l).length = l.length - 1 := by
  unfold diffs
  rw [List.length_map, List.length_zip, List.length_drop]
  omega
theorem diffs_getD {l : List Int} {i : Nat} (h : i + 1 < l.length) : (diffs l).getD i 0 = l.getD (i + 1) 0 - l.getD i 0 := by
  have h0 : i < (diffs l).length := by rw [diffs_len]; omega
  have e : (diffs l)[i] = l[i + 1] - l[i] := by
    simp only [diffs, List.getElem_map, List.getElem_zip, List.getElem_drop]
    congr 2
    omega
  rw [List.getD_eq_getElem?_getD, List.getElem?_eq_getElem h0, List.getD_eq_getElem?_getD, List.getElem?_eq_getElem h, List.getD_eq_getElem?_getD, List.getElem?_eq_getElem (by omega)]
  exact e
theorem mem_ints {l : List Int} {z : Int} (h : z ∈ l) : ∃ i, i < l.length ∧ z = l.getD i 0 := by
  obtain ⟨i, hi, rfl⟩ := List.getElem_of_mem h
  exact ⟨i, hi, by rw [List.getD_eq_getElem?_getD, List.getElem?_eq_getElem hi]; rfl⟩
/-- a run by an order has no differences of that order -/
theorem ran_order {m : Nat} {zs : List Int} {j : Nat} (hm : m ≤ 3) {z : Int} (h : z ∈ diffsN ((aheadOf m (ranOf false m zs j)).drop zs.length) m) : z = 0 := by
  have pj : 0 < 2 ^ j := Nat.pow_pos (by decide)
  have len : ((aheadOf m (ranOf false m zs j)).drop zs.length).length = m + 2 ^ j := by rw [List.length_drop, ahead_len, ran_len]; omega
  have get : ∀ i, ((aheadOf m (ranOf false m zs j)).drop zs.length).getD i 0 = (aheadOf m (ranOf false m zs j)).getD (zs.length + i) 0 := fun i => by
    rw [List.getD_eq_getElem?_getD, List.getElem?_drop, List.getD_eq_getElem?_getD]
  have key : ∀ q, q < 2 ^ j → ((aheadOf m (ranOf false m zs j)).drop zs.length).getD (q + m) 0 = nxt false m (lastK m ((ranOf false m zs j).take (zs.length + q))) ∧ ∀ i, i < m → (lastK m ((ranOf false m zs j).take (zs.length + q))).getD i 0 = ((aheadOf m (ranOf false m zs j)).drop zs.length).getD (q + i) 0 := fun q hq => by
    refine ⟨?_, fun i hi => ?_⟩
    · rw [get, show zs.length + (q + m) = m + (zs.length + q) by omega, ahead_get, ran_get hq]
      rfl
    · rw [ahead_last (by rw [ran_len]; omega) hi, get, Nat.add_assoc]
  generalize hs : (aheadOf m (ranOf false m zs j)).drop zs.length = s at *
  have hm4 : m = 0 ∨ m = 1 ∨ m = 2 ∨ m = 3 := by omega
  rcases hm4 with e | e | e | e <;> rw [e] at h len key
  · obtain ⟨i, hi, rfl⟩ := mem_ints (show z ∈ s from h)
    have := (key i (by omega)).1
    exact this
  · obtain ⟨i, hi, rfl⟩ := mem_ints (show z ∈ diffs s from h)
    rw [diffs_len] at hi
    obtain ⟨k1, k2⟩ := key i (by omega)
    have a0 := k2 0 (by decide)
    have k1 : s.getD (i + 1) 0 = (lastK 1 _).getD 0 0 := k1
    have A0 := diffs_getD (l := s) (i := i) (by omega)
    simp only [Nat.add_assoc, Nat.reduceAdd, Nat.add_zero] at a0 A0 k1
    omega
  · obtain ⟨i, hi, rfl⟩ := mem_ints (show z ∈ diffs (diffs s) from h)
    rw [diffs_len, diffs_len] at hi
    obtain ⟨k1, k2⟩ := key i (by omega)
    have a0 := k2 0 (by decide)
    have a1 := k2 1 (by decide)
    have k1 : s.getD (i + 2) 0 = 2 * (lastK 2 _).getD 1 0 - (lastK 2 _).getD 0 0 := k1
    have A0 := diffs_getD (l := s) (i := i) (by omega)
    have A1 := diffs_getD (l := s) (i := i + 1) (by omega)
    have B0 := diffs_getD (l := diffs s) (i := i) (by rw [diffs_len]; omega)
    simp only [Nat.add_assoc, Nat.reduceAdd, Nat.add_zero] at a0 a1 A0 A1 B0 k1
    omega
  · obtain ⟨i, hi, rfl⟩ := mem_ints (show z ∈ diffs (diffs (diffs s)) from h)
    rw [diffs_len, diffs_len, diffs_len] at hi
    obtain ⟨k1, k2⟩ := key i (by omega)
    have a0 := k2 0 (by decide)
    have a1 := k2 1 (by decide)
    have a2 := k2 2 (by decide)
    have k1 : s.getD (i + 3) 0 = 3 * (lastK 3 _).getD 2 0 - 3 * (lastK 3 _).getD 1 0 + (lastK 3 _).getD 0 0 := k1
    have A0 := diffs_getD (l := s) (i := i) (by omega)
    have A1 := diffs_getD (l := s) (i := i + 1) (by omega)
    have A2 := diffs_getD (l := s) (i := i + 2) (by omega)
    have B0 := diffs_getD (l := diffs s) (i := i) (by rw [diffs_len]; omega)
    have B1 := diffs_getD (l := diffs s) (i := i + 1) (by rw [diffs_len]; omega)
    have C0 := diffs_getD (l := diffs (diffs s)) (i := i) (by rw [diffs_len, diffs_len]; omega)
    simp only [Nat.add_assoc, Nat.reduceAdd, Nat.add_zero] at a0 a1 a2 A0 A1 A2 B0 B1 C0 k1
    omega
end K26
set_option Elab.async false
set_option maxRecDepth 100000
set_option maxHeartbeats 8000000
set_option linter.all false
set_option autoImplicit false
/-! the law's own: differences, one turn -/
namespace K26
variable [DW.Tb]
open PySem PySem.Spec PyProof.Rows L2 DW
abbrev lrightSp : DSpW := fun w es n k => ∃ (p : Addr), w = some p ∧ es = [.raw (.ref p)] ∧ n < 2 ^ 18 ∧ k (.bl true) (n + 40)
theorem zip_ints {l : List Int} : ((l.map D.int).zip (DW.cutD (l.map D.int) (some 1) none)).map (fun p => D.tup [p.1, p.2]) = (l.zip (l.drop 1)).map fun p => D.tup [.int p.1, .int p.2] := by
  by_cases h : l = []
  · subst h; rfl
  · rw [show (some (1 : Int)) = some ((1 : Nat) : Int) from rfl, cutD_from (by rw [List.length_map]; exact List.length_pos_iff.mpr h), ← List.map_drop, List.zip_map, List.map_map]
    rfl
theorem pure_ints : ∀ l : List Int, pureDs (l.map D.int) = true
  | [] => rfl
  | a :: l => by
    have := pure_ints l
    simp only [List.map_cons, pureDs, pureD, this, Bool.and_true]
theorem eqv_ints : ∀ l : List Int, PyData.eqvAll (toPys (l.map D.int)) (toPys (l.map D.int)) = true
  | [] => rfl
  | a :: l => by
    have := eqv_ints l
    simp only [List.map_cons, toPys, toPy, PyData.eqvAll, this, Bool.and_true]
    show (a == a) = true
    simp
theorem lay_ints : ∀ l : List Int, PyData.canLayAll0 (toPys (l.map D.int)) = true ∧ PyData.depthAll (toPys (l.map D.int)) ≤ 1
  | [] => by simp [toPys, PyData.canLayAll0, PyData.depthAll]
  | a :: l => by
    have := lay_ints l
    simp only [List.map_cons, toPys, toPy, PyData.canLayAll0, PyData.canLay0, PyData.depthAll, PyData.depth, this.1, Bool.and_true, true_and]
    omega
theorem shaped_ints (l : List Int) : SeqAt.shaped (toPy (.lst (l.map .int))) = true := by
  have h := lay_ints l
  unfold SeqAt.shaped
  simp only [toPy, PyData.canLay0, PyData.depth, h.1, Bool.true_and, decide_eq_true_eq]
  omega
section
variable {K : PySem.W.Frag} {w : Option Addr} {n : Nat} {k : Kn} {es : List D} {C : Addr}
theorem w__law_differences (h : ldiffSp w es n k) : WpS K w (r__law_differences K) (dstart ["numbers", "times", "found", "turn", "one", "other"] es) n { nx := fun _ n' => kup k .non n', rt := kup k } := by
  obtain ⟨l, m, rfl, hl, hm, hk⟩ := h
  unfold r__law_differences
  refine s_mid (mid := fun ds' n' => n' = n ∧ ds' = [some (.lst (l.map .int)), some (.int m), some (.lst (l.map .int)), none, none, none]) ?_ ?_
  · repeat' (first
    | exact absurd ‹false = true› (by decide)
    | exact absurd ‹true = false› (by decide)
    | walk_at "way by rule"
    | walk_at "way by form"
    | fail)
    all_goals rfl
  rintro ds' n' ⟨rfl, rfl⟩
  refine s_mid (mid := fun ds' n2 => n2 = n' ∧ ∃ v3 v4 v5, ds' = [some (.lst (l.map .int)), some (.int m), some (.lst ((diffsN l m).map .int)), v3, v4, v5]) (s_for (i_rng1 ?_)) ?_
  · repeat' (first
    | exact absurd ‹false = true› (by decide)
    | exact absurd ‹true = false› (by decide)
    | walk_at "way by rule"
    | refine ⟨_, rfl, by omega, by omega, ?_⟩
    | walk_at "way by form"
    | fail)
    refine ⟨fun i ds' n2 => n2 = n' ∧ ∃ v3 v4 v5, ds' = [some (.lst (l.map .int)), some (.int m), some (.lst ((diffsN l i).map .int)), v3, v4, v5], ⟨rfl, none, none, none, rfl⟩, ?_, ?_⟩
    · rintro i x ds' n2 hx ⟨rfl, v3, v4, v5, rfl⟩
      obtain ⟨hi, rfl⟩ := rgD_get hx
      have dl := diffsN_len (l := l) i
      have ds2 : diffsN l (i + 1) = diffs (diffsN l i) := rfl
      generalize diffsN l i = d at *
      refine ⟨_, _, g_name rfl, ?_⟩
      repeat' (first
    | exact absurd ‹false = true› (by decide)
    | exact absurd ‹true = false› (by decide)
    | ((with_reducible refine e_lcG2X ⟨fun x : Int × Int => .int x.1, fun x => .int x.2, fun _ => true, fun x => .int (x.2 - x.1), fun _ => rfl, fun _ => rfl, by decide, ?_⟩))
    | walk_at "way by rule"
    | refine ⟨d.zip (d.drop 1), zip_ints, by rw [List.length_zip]; omega, fun z hz => ?_, ?_⟩
    | walk_at "way by form"
    | fail)
      all_goals (rw [map_yes]; exact ⟨_, _, _, by rw [ds2]; unfold diffs; rw [List.map_map]; rfl⟩)
    · rintro ds' n2 ⟨rfl, v3, v4, v5, rfl⟩
      rw [rgD_len, Int.toNat_natCast]
      exact ⟨rfl, v3, v4, v5, rfl⟩
  rintro ds' n2 ⟨rfl, v3, v4, v5, rfl⟩
  repeat' (first
    | exact absurd ‹false = true› (by decide)
    | exact absurd ‹true = false› (by decide)
    | walk_at "way by rule"
    | walk_at "way by form"
    | fail)
  exact kup_of hk
theorem rd_neInts {l : List Int} (hk : k (.bl false) n) : RD K w (rNeU K) (.lst (l.map .int)) (.lst (l.map .int)) n k := by
  refine rd_neD (by unfold pureD; exact pure_ints l) (by unfold pureD; exact pure_ints l) (shaped_ints l) (shaped_ints l) ?_
  have e : PyData.eqv (toPy (.lst (l.map .int))) (toPy (.lst (l.map .int))) = true := eqv_ints l
  rw [e]; exact hk
theorem pow_ix {j : Nat} (h : 1 ≤ j ∧ j ≤ 12) (hk : k (.int ((2 ^ j : Nat) : Int)) n) : RD K w (rIx K) (.lst [.int 2, .int 4, .int 8, .int 16, .int 32, .int 64, .int 128, .int 256, .int 512, .int 1024, .int 2048, .int 4096]) (.int ((j : Int) - 1)) n k := by
  have hj : j = 1 ∨ j = 2 ∨ j = 3 ∨ j = 4 ∨ j = 5 ∨ j = 6 ∨ j = 7 ∨ j = 8 ∨ j = 9 ∨ j = 10 ∨ j = 11 ∨ j = 12 := by omega
  rcases hj with rfl | rfl | rfl | rfl | rfl | rfl | rfl | rfl | rfl | rfl | rfl | rfl <;> exact rd_ixL rfl hk
theorem w__law_right (h : lrightSp w es n k) : WpS K w (r__law_right K (toSp K lwaySp) (toSp K drawSp) (toSp K numsSp) (toSp K lnumsSp) (toSp K ldiffSp) (toSp K foreSp) (toSp K lnextSp)) (dstart ["pen", "way", "j", "ahead", "numbers", "many", "some", "turn", "number", "at", "one"] es) n { nx := fun _ n' => kup k .non n', rt := kup k } := by
  obtain ⟨p, rfl, rfl, hn, hk⟩ := h
  have same : ∀ {α : Type} [DecidableEq α] (x : α), (!decide (x = x)) = false := fun x => by simp
  unfold r__law_right
  refine s_mid (mid := fun ds' n1 => n1 ≤ n + 3 ∧ ∃ (per : Bool) (m j : Nat), WayOk per m ∧ 1 ≤ j ∧ j ≤ 12 ∧ ds' = [some (.raw (.ref p)), some (wayD per m), some (.int j), none, none, none, none, none, none, none, none]) ?_ ?_
  · repeat' (first
    | exact absurd ‹false = true› (by decide)
    | exact absurd ‹true = false› (by decide)
    | walk_at "way by rule"
    | refine ⟨p, rfl, rfl, by omega, fun per m ok => ?_⟩
    | refine ⟨p, _, rfl, rfl, by omega, by omega, by omega, fun y y0 y1 => ?_⟩
    | walk_at "way by form"
    | fail)
    obtain ⟨i, rfl⟩ := Int.eq_ofNat_of_zero_le y0
    exact ⟨per, m, 1 + i, ok, by omega, by omega, by rw [show (1 : Int) + (i : Int) = ((1 + i : Nat) : Int) by omega]; rfl⟩
  rintro ds' n1 ⟨hn1, per, m, j, ok, j1, j2, rfl⟩
  have k8 := ok.k8
  have pj0 : 0 < 2 ^ j := Nat.pow_pos (by decide)
  have pj : 2 ^ j ≤ 2 ^ 12 := Nat.pow_le_pow_right (by decide) j2
  refine s_mid (mid := fun ds' n2 => n2 ≤ n1 + 10 ∧ ∃ (zs : List Int) (v7 : Option D), zs.length ≤ 9 ∧ ds' = [some (.raw (.ref p)), some (wayD per m), some (.int j), some (.lst (zs.map .int)), none, none, none, v7, none, none, none]) ?_ ?_
  · refine s_set (e_lcInts (P := fun _ => True) 1 (i_rng1 ?_))
    repeat' (first
    | exact absurd ‹false = true› (by decide)
    | exact absurd ‹true = false› (by decide)
    | walk_at "way by rule"
    | refine ⟨p, 10, rfl, rfl, by omega, by omega, by omega, fun y y0 y1 => ?_⟩
    | walk_at "way by form"
    | fail)
    refine ⟨by rw [rgD_len]; omega, fun q x n5 hx hn5 => ?_, fun ns hl hb n5 hn5 => ?_⟩
    · obtain ⟨hq, rfl⟩ := rgD_get hx
      refine ⟨rfl, ?_⟩
      repeat' (first
    | exact absurd ‹false = true› (by decide)
    | exact absurd ‹true = false› (by decide)
    | walk_at "way by rule"
    | refine ⟨p, _, rfl, rfl, by omega, by omega, by omega, fun y y0 y1 => ?_⟩
    | walk_at "way by form"
    | fail)
      all_goals exact ⟨trivial, Nat.le_refl _⟩
    · rw [rgD_len] at hl hn5
      exact ⟨rfl, by omega, ns, _, by omega, rfl⟩
  rintro ds' n2 ⟨hn2, zs, v7, hz, rfl⟩
  have tk : zs.map D.int ++ [D.tup [.str "run", .int j]] = (zs.map Tk.near ++ [Tk.run j]).map tkD := by rw [List.map_append, List.map_map]; rfl
  have tok : ∀ t ∈ zs.map Tk.near ++ [Tk.run j], TkOk t := fun t ht => by
    rcases List.mem_append.mp ht with ht | ht
    · obtain ⟨z, _, rfl⟩ := List.mem_map.mp ht
      exact fun i e => (nomatch e)
    · rw [List.mem_singleton] at ht
      subst ht
      intro i e
      cases e
      exact ⟨j1, j2⟩
  have tl : (zs.map Tk.near ++ [Tk.run j]).length ≤ 50000 := by simp; omega
  have rl := ran_len (per := per) (m := m) (zs := zs) (j := j)
  have tm : manyAll (zs.map Tk.near ++ [Tk.run j]) ≤ 50000 := by
    have : (ranOf per m zs j).length = manyAll (zs.map Tk.near ++ [Tk.run j]) := numsOf_len
    rw [← this, rl]; omega
  refine s_mid (mid := fun ds' n3 => n3 = n2 ∧ ds' = [some (.raw (.ref p)), some (wayD per m), some (.int j), some (.lst (zs.map .int)), some (.tup ((ranOf per m zs j).map .int)), none, none, v7, none, none, none]) ?_ ?_
  · repeat' (first
    | exact absurd ‹false = true› (by decide)
    | exact absurd ‹true = false› (by decide)
    | (rw [tk]; refine ⟨per, m, _, rfl, ok, tl, tok, tm, ?_⟩)
    | walk_at "way by rule"
    | (with_reducible refine And.intro (by simp only [List.length_append, List.length_map, List.length_cons, List.length_nil]; omega) ?_)
    | walk_at "way by form"
    | fail)
    all_goals first | rfl | exact ⟨rfl, rfl⟩ | trace_state
  rintro ds' n3 ⟨rfl, rfl⟩
  have rt := ran_take (per := per) (m := m) (zs := zs) (j := j)
  have cutT : DW.cutD ((ranOf per m zs j).map D.int) none (some ((zs.map D.int).length : Int)) = (numsOf per m (zs.map .near)).map .int := by
    rw [List.length_map, cutD_take, ← List.map_take, rt]
  refine s_mid (mid := fun ds' n4 => n4 = n3 ∧ ds' = [some (.raw (.ref p)), some (wayD per m), some (.int j), some (.lst (zs.map .int)), some (.tup ((ranOf per m zs j).map .int)), some (.int ((zs.length + 2 ^ j : Nat) : Int)), none, v7, none, none, none]) ?_ ?_
  · repeat' (first
    | exact absurd ‹false = true› (by decide)
    | exact absurd ‹true = false› (by decide)
    | with_reducible refine pow_ix ⟨j1, j2⟩ ?_
    | walk_at "way by rule"
    | walk_at "way by form"
    | fail)
    all_goals (rw [List.length_map, ← Int.natCast_add]; first | rfl | exact ⟨rfl, rfl⟩)
  rintro ds' n4 ⟨rfl, rfl⟩
  refine s_mid (mid := fun ds' n5 => n5 = n4 ∧ ∃ v8, ds' = [some (.raw (.ref p)), some (wayD per m), some (.int j), some (.lst (zs.map .int)), some (.tup ((ranOf per m zs j).map .int)), some (.int ((zs.length + 2 ^ j : Nat) : Int)), none, v7, v8, none, none]) ?_ ?_
  · repeat' (first
    | exact absurd ‹false = true› (by decide)
    | exact absurd ‹true = false› (by decide)
    | (rw [cutT]; refine ⟨per, m, zs, rfl, ok, by omega, ?_⟩)
    | with_reducible refine rd_neInts ?_
    | exact absurd ‹_› (by rw [List.length_map, rl, same]; decide)
    | exact absurd ‹_› (by rw [same]; decide)
    | ((with_reducible refine e_lcIX ⟨fun _ => false, fun z => .int z, ?_⟩); refine i_tupV ⟨_, rfl, ?_⟩)
    | (with_reducible refine rc_listT ?_)
    | walk_at "way by rule"
    | refine ⟨per, m, zs, rfl, ok, by omega, ?_⟩
    | refine ⟨ranOf per m zs j, rfl, by omega, fun z hz => ?_, ?_⟩
    | walk_at "way by form"
    | fail)
    · rename_i q _
      exact absurd (List.filter_eq_nil_iff.mpr fun _ _ => by simp) q
    · exact ⟨_, rfl⟩
  rintro ds' n5 ⟨rfl, v8, rfl⟩
  have repR : ∀ {z j : Int} {n : Nat} {k : Kn}, 0 ≤ j → j ≤ 8 → k (.lst ((List.replicate j.toNat z).map .int)) n → RD K (some p) rMulU (.lst [.int z]) (.int j) n k := fun {z j n k} h1 h2 hk => rd_rep (by omega) (by omega) (by simp; omega) (by rw [rep_flat]; exact hk)
  have al := ahead_len (m := m) (f := ranOf per m zs j)
  have ae : (List.replicate m 0).map D.int ++ (ranOf per m zs j).map D.int = (aheadOf m (ranOf per m zs j)).map .int := by unfold aheadOf; rw [List.map_append]
  cases per with
  | true =>
    have lo := ok.lo rfl
    refine s_seq (s_if ?_)
    unfold wayD
    repeat' (first
    | exact absurd ‹false = true› (by decide)
    | exact absurd ‹true = false› (by decide)
    | exact absurd ‹decide (_ = _) = false› (by decide +kernel)
    | refine repR (by omega) (by omega) ?_
    | (with_reducible refine rc_listT ?_)
    | walk_at "way by rule"
    | (with_reducible refine And.intro (by simp only [List.length_append, List.length_map, List.length_cons, List.length_nil, List.length_replicate]; omega) ?_)
    | walk_at "way by form"
    | fail)
    have e1 : ((m : Nat) : Int).toNat = m := Int.toNat_natCast m
    rw [e1, ae]
    repeat' (first
    | exact absurd ‹false = true› (by decide)
    | exact absurd ‹true = false› (by decide)
    | (with_reducible refine e_lcIX ⟨fun _ => false, fun z => .int z, ?_⟩)
    | walk_at "way by rule"
    | walk_at "way by form"
    | fail)
    have per' := fun (i : Nat) (h : i < 2 ^ j) => ran_period (m := m) (zs := zs) (j := j) (p := zs.length + m + i) lo.1 (by omega) (by omega)
    have fe : ∀ l : List Int, (l.filter fun _ => false) = [] := fun l => List.filter_eq_nil_iff.mpr fun _ _ => by simp
    generalize hA : aheadOf m (ranOf true m zs j) = A at *
    refine ⟨_, rgD_ints _ _, by rw [List.length_map, List.length_range, List.length_map, List.length_map]; omega, fun z hz' => ?_, ?_⟩
    · obtain ⟨i, hi, rfl⟩ := List.mem_map.mp hz'
      have hi := List.mem_range.mp hi
      rw [List.length_map, List.length_map] at hi
      rw [List.length_map]
      repeat' (first
    | exact absurd ‹false = true› (by decide)
    | exact absurd ‹true = false› (by decide)
    | (refine rd_ixNs (.inl rfl) ⟨⟨by omega, by omega⟩, ?_⟩)
    | walk_at "way by rule"
    | walk_at "way by form"
    | fail)
      have k1 := per' i (by omega)
      rw [show zs.length + m + i - m = ((zs.length : Int) + (m : Int) + (i : Int) - (m : Int)).toNat by omega, show zs.length + m + i = ((zs.length : Int) + (m : Int) + (i : Int)).toNat by omega] at k1
      rw [k1, same]
      exact ⟨rfl, rfl, fun q => (nomatch q)⟩
    rw [fe]
    repeat' (first
    | exact absurd ‹false = true› (by decide)
    | exact absurd ‹true = false› (by decide)
    | walk_at "way by rule"
    | walk_at "way by form"
    | fail)
    exact ⟨n + 40, by omega, hk⟩
  | false =>
    have hi := ok.hi rfl
    refine s_seq (s_if ?_)
    unfold wayD
    repeat' (first
    | exact absurd ‹false = true› (by decide)
    | exact absurd ‹true = false› (by decide)
    | exact absurd ‹decide (_ = _) = true› (by decide +kernel)
    | refine repR (by omega) (by omega) ?_
    | (with_reducible refine e_slL ?_)
    | (with_reducible refine rc_listT ?_)
    | walk_at "way by rule"
    | (with_reducible refine And.intro (by simp only [List.length_append, List.length_map, List.length_cons, List.length_nil, List.length_replicate]; omega) ?_)
    | walk_at "way by form"
    | fail)
    have e1 : ((m : Nat) : Int).toNat = m := Int.toNat_natCast m
    have ord := fun z h => ran_order (m := m) (zs := zs) (j := j) (z := z) hi h
    have fe : ∀ l : List Int, (l.filter fun _ => false) = [] := fun l => List.filter_eq_nil_iff.mpr fun _ _ => by simp
    have cutA : DW.cutD ((aheadOf m (ranOf false m zs j)).map D.int) (some ((zs.map D.int).length : Int)) none = ((aheadOf m (ranOf false m zs j)).drop zs.length).map .int := by
      rw [List.length_map, cutD_from (by rw [List.length_map]; omega), ← List.map_drop]
    have dl := diffsN_len (l := (aheadOf m (ranOf false m zs j)).drop zs.length) m
    have dd : ((aheadOf m (ranOf false m zs j)).drop zs.length).length ≤ 50000 := by rw [List.length_drop]; omega
    rw [e1, ae, cutA]
    generalize (aheadOf m (ranOf false m zs j)).drop zs.length = B at *
    repeat' (first
    | exact absurd ‹false = true› (by decide)
    | exact absurd ‹true = false› (by decide)
    | exact absurd ‹List.isEmpty _ = false› (by rw [fe]; decide)
    | ((with_reducible refine e_lcIX ⟨fun _ => false, fun z => .int z, ?_⟩); with_reducible refine i_list ?_)
    | walk_at "way by rule"
    | (refine ⟨B, m, rfl, dd, k8, ?_⟩)
    | (refine ⟨_, rfl, diffsN B m, rfl, by omega, fun z hz' => ?_, ?_⟩)
    | refine ⟨false, m, _, ranOf false m zs j, rfl, ok, .inr rfl, by omega, ?_⟩
    | walk_at "way by form"
    | fail)
    · have e := ord z ‹_›
      subst e
      exact ⟨rfl, rfl, fun q => (nomatch q)⟩
    all_goals first
      | exact ⟨n + 40, by omega, hk⟩
      | (rw [decide_eq_true rfl]; exact ⟨n + 40, by omega, hk⟩)
      | trace_state
end
end K26
set_option Elab.async false
set_option maxRecDepth 100000
set_option maxHeartbeats 8000000
set_option linter.all false
set_option autoImplicit false
/-! a run's piece, parts of one point -/
namespace K26
variable [DW.Tb]
open PySem PySem.Spec PyProof.Rows L2 DW
/-- numbers told one behind another, and the last ones -/
def itL (per : Bool) (m : Nat) (l : List Int) : Nat → List Int × List Int
  | 0 => ([], l)
  | i + 1 => ((itL per m l i).1 ++ [nxt per m (itL per m l i).2], mv (itL per m l i).2 (nxt per m (itL per m l i).2))
def RunOf (per : Bool) (m : Nat) (l : List Int) (c : Nat) (r : List Int) : Prop :=
  (per = true → r = l.take c) ∧ (per = false → TrimOf ([(itL per m l 3).1.getD 0 0, (itL per m l 3).1.getD 1 0 - (itL per m l 3).1.getD 0 0, (itL per m l 3).1.getD 2 0 - 2 * (itL per m l 3).1.getD 1 0 + (itL per m l 3).1.getD 0 0].take c) r)
abbrev runbySp : DSpW := fun w es n k => ∃ per m l c, es = [wayD per m, .lst (l.map .int), .int (c : Nat)] ∧ WayOk per m ∧ l.length = m ∧ 2 ≤ c ∧ c ≤ 2 ^ 12 ∧ ∀ r, RunOf per m l c r → k (.tup [.str (kindW per), .lst (r.map .int)]) n
abbrev momsSp : DSpW := fun w es n k => ∃ (x : Str) (z : Int), es = [.str x, .lst [.int z], .int 1] ∧ k (.tup [.int z, .int 0]) n
def strD (c : Nat) (per : Bool) (ns : List Int) : D := .tup [.int c, .str (kindW per), .lst (ns.map .int)]
abbrev cutrSp : DSpW := fun w es n k => ∃ (c : Nat) (per : Bool) (ns : List Int) (b : Int), es = [strD c per ns, .int b, .int 1] ∧ Small ns ∧ 0 ≤ b ∧ b ≤ 2 ^ 50 ∧ k (.tup [.str (kindW per), .lst [.int (numAt per ns b)]]) n
theorem itL_len {per : Bool} {m : Nat} {l : List Int} (h : l.length = m) : ∀ i, (itL per m l i).1.length = i ∧ (itL per m l i).2.length = m
  | 0 => ⟨rfl, h⟩
  | i + 1 => by
    obtain ⟨h1, h2⟩ := itL_len h i
    refine ⟨by show (_ ++ [_]).length = _; rw [List.length_append, h1]; rfl, ?_⟩
    show (mv _ _).length = m
    unfold mv
    by_cases q : (itL per m l i).2 = []
    · rw [if_pos q, ← h2, q]
    · rw [if_neg q, List.length_drop, List.length_append, h2]
      simp
theorem part_one {per : Bool} {ns : List Int} {b : Int} (h0 : 1 ≤ ns.length) (hb : 0 ≤ b) {r : List Int} (h : PartOf per ns b 1 r) : r = [numAt per ns b] := by
  cases per with
  | true =>
    have e := h.1 rfl
    have m1 : (min (ns.length : Int) 1).toNat = 1 := by omega
    unfold lapL at e
    rw [m1] at e
    rw [e]
    unfold numAt
    rw [if_pos rfl]
    show [ns.getD ((b + (0 + ((0 : Nat) : Int))) % (ns.length : Int)).toNat 0] = _
    rw [show b + (0 + ((0 : Nat) : Int)) = b by omega]
  | false =>
    obtain ⟨j, e, h1, h2, h3⟩ := h.2 rfl
    have : (1 : Int).toNat = 1 := rfl
    rw [this] at e
    show r = _
    have l1 : r.length ≤ 1 := by rw [e, List.length_take]; simp; omega
    have e2 : [numAt false ns b, ns.getD 1 0 + ns.getD 2 0 * b, ns.getD 2 0].take 1 = [numAt false ns b] := rfl
    rw [e2] at e
    cases j with
    | zero => rw [e] at h1; simp at h1
    | succ j => rw [e]; simp
section
variable {K : PySem.W.Frag} {w : Option Addr} {n : Nat} {k : Kn} {es : List D} {C : Addr}
theorem w_cut_row (h : cutrSp w es n k) : WpS K w (r_cut_row K (toSp K partSp)) (dstart ["row", "begin", "count"] es) n { nx := fun _ n' => kup k .non n', rt := kup k } := by
  obtain ⟨c, per, ns, b, rfl, hs, b0, b1, hk⟩ := h
  unfold r_cut_row strD
  repeat' (first
    | exact absurd ‹false = true› (by decide)
    | exact absurd ‹true = false› (by decide)
    | walk_at "way by rule"
    | refine ⟨per, _, ns, b, 1, rfl, .inl rfl, hs, b0, by omega, by decide, by decide, fun r hr => ?_⟩
    | walk_at "way by form"
    | fail)
  obtain rfl := part_one hs.n1 b0 hr
  exact kup_of hk
theorem w_moments_of (h : momsSp w es n k) : WpS K w (r_moments_of K (toSp K padSp)) (dstart ["kind", "numbers", "count", "first", "more", "_"] es) n { nx := fun _ n' => kup k .non n', rt := kup k } := by
  obtain ⟨x, z, rfl, hk⟩ := h
  unfold r_moments_of
  repeat' (first
    | exact absurd ‹false = true› (by decide)
    | exact absurd ‹true = false› (by decide)
    | walk_at "way by rule"
    | refine ⟨_, [z], rfl, .inl rfl, by simp, by simp, ?_⟩
    | refine ⟨_, _, g_lst (gs_cons g_name (gs_cons g_name (gs_cons g_name gs_nil))) rfl, ?_⟩
    | walk_at "way by form"
    | fail)
  all_goals exact kup_of hk
theorem w_run_by (h : runbySp w es n k) : WpS K w (r_run_by K (toSp K nextSp) (toSp K movedSp) (toSp K trimSp)) (dstart ["way", "last", "many", "some", "ahead", "_", "number", "first", "second", "third"] es) n { nx := fun _ n' => kup k .non n', rt := kup k } := by
  obtain ⟨per, m, l, c, rfl, ok, hl, c1, c2, hk⟩ := h
  have k8 := ok.k8
  unfold r_run_by
  cases per with
  | true =>
    unfold wayD
    refine s_seq (s_if ?_)
    repeat' (first
    | exact absurd ‹false = true› (by decide)
    | exact absurd ‹true = false› (by decide)
    | exact absurd ‹decide (_ = _) = false› (by decide +kernel)
    | with_reducible refine e_slL ?_
    | walk_at "way by rule"
    | walk_at "way by form"
    | fail)
    all_goals (rw [cutD_take, ← List.map_take]; exact kup_of (hk _ ⟨fun _ => rfl, fun z => (nomatch z)⟩))
  | false =>
    refine s_mid (mid := fun ds' n' => n' = n ∧ ds' = [some (wayD false m), some (.lst (l.map .int)), some (.int c), none, none, none, none, none, none, none]) ?_ ?_
    · unfold wayD
      repeat' (first
    | exact absurd ‹false = true› (by decide)
    | exact absurd ‹true = false› (by decide)
    | exact absurd ‹decide (_ = _) = true› (by decide +kernel)
    | walk_at "way by rule"
    | walk_at "way by form"
    | fail)
      all_goals rfl
    rintro ds' n' ⟨rfl, rfl⟩
    refine s_mid (mid := fun ds' n1 => n1 = n' ∧ ds' = [some (wayD false m), some (.lst (l.map .int)), some (.int c), some (.own ((itL false m l 0).1.map .int)), some (.lst ((itL false m l 0).2.map .int)), none, none, none, none, none]) (s_parOE (by decide) rfl (f_lst (a_nil ⟨by simp, e_var rfl ⟨rfl, rfl, rfl⟩⟩))) ?_
    rintro ds' n' ⟨rfl, rfl⟩
    refine s_mid (mid := fun ds' n2 => n2 = n' ∧ ∃ v4 v5 v6, ds' = [some (wayD false m), some (.lst (l.map .int)), some (.int c), some (.own ((itL false m l 3).1.map .int)), v4, v5, v6, none, none, none]) (s_for (i_rng1 (a_cons (e_int (a_nil ⟨3, rfl, by decide, by decide, ?_⟩))))) ?_
    · refine ⟨fun i ds' n2 => n2 = n' ∧ ∃ v5 v6, ds' = [some (wayD false m), some (.lst (l.map .int)), some (.int c), some (.own ((itL false m l i).1.map .int)), some (.lst ((itL false m l i).2.map .int)), v5, v6, none, none, none], ⟨rfl, none, none, rfl⟩, ?_, ?_⟩
      · rintro i x ds' n2 hx ⟨rfl, v5, v6, rfl⟩
        obtain ⟨hi, rfl⟩ := rgD_get hx
        have hi : i < 3 := hi
        obtain ⟨q1, q2⟩ := itL_len (per := false) hl i
        have st : itL false m l (i + 1) = ((itL false m l i).1 ++ [nxt false m (itL false m l i).2], mv (itL false m l i).2 (nxt false m (itL false m l i).2)) := rfl
        generalize itL false m l i = g at *
        refine ⟨_, _, g_name rfl, ?_⟩
        repeat' (first
    | exact absurd ‹false = true› (by decide)
    | exact absurd ‹true = false› (by decide)
    | walk_at "way by rule"
    | refine ⟨false, m, g.2, rfl, ok, q2, ?_⟩
    | refine ⟨g.2, _, rfl, by omega, ?_⟩
    | with_reducible refine And.intro (by rw [List.length_map]; omega) ?_
    | walk_at "way by form"
    | fail)
        all_goals first
          | exact ⟨_, _, by rw [st, List.map_append]; rfl⟩
          | trace_state
      · rintro ds' n2 ⟨rfl, v5, v6, rfl⟩
        exact ⟨rfl, _, _, _, rfl⟩
    rintro ds' n2 ⟨rfl, v4, v5, v6, rfl⟩
    refine s_freeze (i := 3) rfl ?_
    obtain ⟨q1, q2⟩ := itL_len (per := false) hl 3
    have h3 : (itL false m l 3).1 = [(itL false m l 3).1.getD 0 0, (itL false m l 3).1.getD 1 0, (itL false m l 3).1.getD 2 0] := by
      match hh : (itL false m l 3).1, q1 with
      | [a, b, c], _ => rfl
    have hk := fun r h => hk r ⟨fun z => (nomatch z), fun _ => h⟩
    generalize (itL false m l 3).1.getD 0 0 = a at *
    generalize (itL false m l 3).1.getD 1 0 = b at *
    generalize (itL false m l 3).1.getD 2 0 = e at *
    rw [h3]
    repeat' (first
    | exact absurd ‹false = true› (by decide)
    | exact absurd ‹true = false› (by decide)
    | walk_at "way by rule"
    | refine ⟨_, _, g_lst (gs_cons g_name (gs_cons g_name (gs_cons g_name gs_nil))) rfl, ?_⟩
    | (refine ⟨[a, b - a, e - 2 * b + a], c, rfl, by omega, by simp, by simp, fun r hr => ?_⟩)
    | walk_at "way by form"
    | fail)
    all_goals exact kup_of (hk r hr)
end
end K26
set_option Elab.async false
set_option maxRecDepth 100000
set_option maxHeartbeats 4000000
set_option linter.all false
set_option autoImplicit false
/-! plain: a run's piece tells a run's numbers -/
namespace K26
variable [DW.Tb]
open DW
/-- the q-th number of a run behind f -/
def runQ (per : Bool) (m : Nat) (f : List Int) (q : Nat) : Int := nx per m (grow per m 0 f q)
theorem itL_eq {per : Bool} {m : Nat} {f : List Int} : ∀ i, itL per m (lastK m f) i = ((grow per m 0 f i).drop f.length, lastK m (grow per m 0 f i))
  | 0 => by
    show ([], lastK m f) = (f.drop f.length, lastK m f)
    rw [List.drop_length]
  | i + 1 => by
    have e := itL_eq (per := per) (m := m) (f := f) i
    have g : grow per m 0 f (i + 1) = grow per m 0 f i ++ [nx per m (grow per m 0 f i) + 0] := rfl
    show ((itL per m (lastK m f) i).1 ++ [nxt per m (itL per m (lastK m f) i).2], mv (itL per m (lastK m f) i).2 (nxt per m (itL per m (lastK m f) i).2)) = _
    rw [e, g, Int.add_zero]
    show ((grow per m 0 f i).drop f.length ++ [nx per m (grow per m 0 f i)], mv (lastK m (grow per m 0 f i)) (nx per m (grow per m 0 f i))) = _
    rw [mv_last, List.drop_append_of_le_length (by rw [grow_len]; omega)]
theorem itL_getD {per : Bool} {m : Nat} {f : List Int} {i q : Nat} (h : q < i) : (itL per m (lastK m f) i).1.getD q 0 = runQ per m f q := by
  rw [itL_eq]
  show ((grow per m 0 f i).drop f.length).getD q 0 = _
  have e := grow_get (per := per) (k := m) (d := 0) (f := f) h
  rw [List.getD_eq_getElem?_getD] at e
  rw [List.getD_eq_getElem?_getD, List.getElem?_drop, e, Int.add_zero]
  rfl
theorem lastR {per : Bool} {m : Nat} {f : List Int} {i q : Nat} (hi : i < m) (hm : m ≤ q + i) : (lastK m (grow per m 0 f q)).getD i 0 = runQ per m f (q + i - m) := by
  rw [lastK_getD, grow_len, List.getD_eq_getElem?_getD, List.getElem?_append_right (by rw [List.length_replicate]; omega), List.length_replicate]
  have e := grow_get (per := per) (k := m) (d := 0) (f := f) (n := q) (q := q + i - m) (by omega)
  rw [List.getD_eq_getElem?_getD, show f.length + (q + i - m) = f.length + q + i - m by omega] at e
  rw [e, Int.add_zero]
  rfl
theorem lastF {per : Bool} {m : Nat} {f : List Int} {q : Nat} (hm : q < m) : (lastK m (grow per m 0 f q)).getD 0 0 = (lastK m f).getD q 0 := by
  rw [lastK_getD, lastK_getD, grow_len, Nat.add_zero]
  have e := grow_take (per := per) (k := m) (d := 0) (f := f) q 0 (Nat.zero_le _)
  rw [Nat.add_zero] at e
  have e : (grow per m 0 f q).take f.length = f := e
  by_cases h : f.length + q < m
  · rw [List.getD_eq_getElem?_getD, List.getD_eq_getElem?_getD, List.getElem?_append_left (by simpa using h), List.getElem?_append_left (by simpa using h)]
  · rw [List.getD_eq_getElem?_getD, List.getD_eq_getElem?_getD, List.getElem?_append_right (by rw [List.length_replicate]; omega), List.getElem?_append_right (by rw [List.length_replicate]; omega), List.length_replicate]
    have := congrArg (fun l : List Int => l[f.length + q - m]?) e
    simp only [List.getElem?_take] at this
    rw [if_pos (by omega)] at this
    rw [this]
/-- by a period -/
theorem run_period {m : Nat} {f : List Int} (hm : 1 ≤ m) : ∀ q, runQ true m f q = (lastK m f).getD (q % m) 0 := by
  intro q
  induction q using Nat.strongRecOn with
  | ind q ih =>
    have e : runQ true m f q = (lastK m (grow true m 0 f q)).getD 0 0 := rfl
    by_cases h : q < m
    · rw [e, lastF h, Nat.mod_eq_of_lt h]
    · rw [e, lastR (by omega) (by omega), Nat.add_zero, ih (q - m) (by omega), ← Nat.mod_eq_sub_mod (by omega)]
/-- by an order up to three -/
theorem run_rec {m : Nat} {f : List Int} (hm : m ≤ 3) (q : Nat) : runQ false m f (q + 3) = 3 * runQ false m f (q + 2) - 3 * runQ false m f (q + 1) + runQ false m f q := by
  have hm4 : m = 0 ∨ m = 1 ∨ m = 2 ∨ m = 3 := by omega
  rcases hm4 with rfl | rfl | rfl | rfl
  · have z : ∀ p, runQ false 0 f p = 0 := fun p => rfl
    rw [z, z, z, z]; rfl
  · have z : ∀ p, runQ false 1 f (p + 1) = runQ false 1 f p := fun p => by
      have e := lastR (per := false) (m := 1) (f := f) (i := 0) (q := p + 1) (by decide) (by omega)
      exact e
    have a := z q
    have b := z (q + 1)
    have c := z (q + 2)
    simp only [Nat.add_assoc, Nat.reduceAdd] at a b c
    omega
  · have z : ∀ p, runQ false 2 f (p + 2) = 2 * runQ false 2 f (p + 1) - runQ false 2 f p := fun p => by
      have e0 := lastR (per := false) (m := 2) (f := f) (i := 0) (q := p + 2) (by decide) (by omega)
      have e1 := lastR (per := false) (m := 2) (f := f) (i := 1) (q := p + 2) (by decide) (by omega)
      show 2 * (lastK 2 (grow false 2 0 f (p + 2))).getD 1 0 - (lastK 2 (grow false 2 0 f (p + 2))).getD 0 0 = _
      rw [e0, e1]
      rfl
    have a := z q
    have b := z (q + 1)
    simp only [Nat.add_assoc, Nat.reduceAdd] at a b
    omega
  · have e0 := lastR (per := false) (m := 3) (f := f) (i := 0) (q := q + 3) (by decide) (by omega)
    have e1 := lastR (per := false) (m := 3) (f := f) (i := 1) (q := q + 3) (by decide) (by omega)
    have e2 := lastR (per := false) (m := 3) (f := f) (i := 2) (q := q + 3) (by decide) (by omega)
    show 3 * (lastK 3 (grow false 3 0 f (q + 3))).getD 2 0 - 3 * (lastK 3 (grow false 3 0 f (q + 3))).getD 1 0 + (lastK 3 (grow false 3 0 f (q + 3))).getD 0 0 = _
    rw [e0, e1, e2]
    rfl
def polyQ (a b e : Int) (q : Nat) : Int := a + b * q + e * pairs q
theorem poly_rec (a b e : Int) (q : Nat) : polyQ a b e (q + 3) = 3 * polyQ a b e (q + 2) - 3 * polyQ a b e (q + 1) + polyQ a b e q := by
  unfold polyQ
  have p1 := pairs_succ q
  have p2 := pairs_succ (q + 1)
  have p3 := pairs_succ (q + 2)
  rw [show q + 3 = q + 2 + 1 from rfl, p3, show q + 2 = q + 1 + 1 from rfl, p2, p1]
  simp only [Int.natCast_add, Int.natCast_one, Int.mul_add, Int.mul_one]
  omega
theorem run_poly {m : Nat} {f : List Int} (hm : m ≤ 3) : ∀ q, runQ false m f q = polyQ (runQ false m f 0) (runQ false m f 1 - runQ false m f 0) (runQ false m f 2 - 2 * runQ false m f 1 + runQ false m f 0) q := by
  intro q
  induction q using Nat.strongRecOn with
  | ind q ih =>
    match q, ih with
    | 0, _ => unfold polyQ pairs; simp
    | 1, _ => unfold polyQ pairs; simp; omega
    | 2, _ => unfold polyQ pairs; simp; omega
    | q + 3, ih => rw [run_rec hm q, ih (q + 2) (by omega), ih (q + 1) (by omega), ih q (by omega), poly_rec]
/-- a run's piece tells the run's numbers -/
theorem run_num {per : Bool} {m : Nat} {f : List Int} (ok : WayOk per m) {c : Nat} {r : List Int} (h : RunOf per m (lastK m f) c r) {q : Nat} (hq : q < c) : numAt per r (q : Int) = runQ per m f q := by
  cases per with
  | true =>
    have lo := ok.lo rfl
    have e := h.1 rfl
    unfold numAt
    rw [if_pos rfl, run_period lo.1, e]
    have l : ((lastK m f).take c).length = min c m := by rw [List.length_take, lastK_len]
    rw [l, ← Int.natCast_emod, Int.toNat_natCast, List.getD_eq_getElem?_getD, List.getD_eq_getElem?_getD, List.getElem?_take]
    by_cases z : c ≤ m
    · rw [Nat.min_eq_left z, Nat.mod_eq_of_lt hq, if_pos hq, Nat.mod_eq_of_lt (by omega)]
    · have : q % m < m := Nat.mod_lt _ (by omega)
      rw [Nat.min_eq_right (by omega), if_pos (by omega)]
  | false =>
    have hi := ok.hi rfl
    have t := h.2 rfl
    rw [itL_getD (by decide), itL_getD (by decide), itL_getD (by decide)] at t
    rw [run_poly hi q]
    unfold numAt polyQ
    rw [if_neg (by decide), t.getD, t.getD, t.getD]
    have gt : ∀ (l : List Int) (i : Nat), (l.take c).getD i 0 = if i < c then l.getD i 0 else 0 := fun l i => by
      rw [List.getD_eq_getElem?_getD, List.getElem?_take]
      split
      · rw [List.getD_eq_getElem?_getD]
      · rfl
    rw [gt, gt, gt, if_pos (by omega)]
    by_cases c1 : 1 < c
    · rw [if_pos c1]
      by_cases c2 : 2 < c
      · rw [if_pos c2]; rfl
      · rw [if_neg c2]
        have : q = 0 ∨ q = 1 := by omega
        rcases this with rfl | rfl
        · unfold pairs; simp
        · unfold pairs; simp
    · have : q = 0 := by omega
      subst this
      unfold pairs; simp
end K26
set_option Elab.async false
set_option maxRecDepth 100000
set_option maxHeartbeats 4000000
set_option linter.all false
set_option autoImplicit false
/-! plain: how great told numbers grow -/
namespace K26
variable [DW.Tb]
open DW
def Inv (m : Nat) (s : Int) (n : Nat) (x y z : Int) : Prop :=
  (m ≤ 1 → -s ≤ z ∧ z ≤ s) ∧ (m = 2 → (-s ≤ z - y ∧ z - y ≤ s) ∧ (-(40 * (n : Int)) ≤ z ∧ z ≤ 40 * (n : Int))) ∧
  (m = 3 → (-s ≤ z - 2 * y + x ∧ z - 2 * y + x ≤ s) ∧ (-(40 * (n : Int)) ≤ z - y ∧ z - y ≤ 40 * (n : Int)) ∧ (-(40 * ((n : Int) * n)) ≤ z ∧ z ≤ 40 * ((n : Int) * n)))
def nx3 (m : Nat) (x y z : Int) : Int := if m = 0 then 0 else if m = 1 then z else if m = 2 then 2 * z - y else 3 * z - 3 * y + x
theorem inv_step {m n : Nat} {s x y z t a : Int} (hm : m ≤ 3) (h : Inv m s n x y z) (s0 : 0 ≤ s) (ht : -a ≤ t ∧ t ≤ a) (ha : s + a ≤ 40) : Inv m (s + a) (n + 1) y z (nx3 m x y z + t) ∧ -(40 * (((n : Int) + 1) * ((n : Int) + 1))) ≤ nx3 m x y z + t ∧ nx3 m x y z + t ≤ 40 * (((n : Int) + 1) * ((n : Int) + 1)) := by
  obtain ⟨h1, h2, h3⟩ := h
  have sq : ((n : Int) + 1) * ((n : Int) + 1) = (n : Int) * n + 2 * n + 1 := by rw [Int.mul_add, Int.add_mul, Int.mul_one, Int.one_mul]; omega
  have nn : 0 ≤ (n : Int) * n := Int.mul_nonneg (by omega) (by omega)
  have hm4 : m = 0 ∨ m = 1 ∨ m = 2 ∨ m = 3 := by omega
  unfold Inv nx3
  rw [Int.natCast_add, Int.natCast_one, sq]
  rcases hm4 with rfl | rfl | rfl | rfl
  · refine ⟨⟨fun _ => ?_, fun q => ?_, fun q => ?_⟩, ?_, ?_⟩
    · rw [if_pos rfl]; omega
    · cases q
    · cases q
    · rw [if_pos rfl]; omega
    · rw [if_pos rfl]; omega
  · have h1 := h1 (by omega)
    simp only [Nat.one_ne_zero, if_false, if_true]
    exact ⟨⟨fun _ => by omega, (fun q => by cases q), (fun q => by cases q)⟩, by omega, by omega⟩
  · have h2 := h2 rfl
    refine ⟨⟨fun q => by omega, fun q => ?_, (fun q => by cases q)⟩, ?_, ?_⟩ <;> simp only [Nat.reduceEqDiff, if_false, if_true] <;> omega
  · have h3 := h3 rfl
    refine ⟨⟨fun q => by omega, (fun q => by cases q), fun q => ?_⟩, ?_, ?_⟩ <;> simp only [Nat.reduceEqDiff, if_false, if_true] <;> omega
/-- what all told numbers keep -/
structure Told (per : Bool) (m : Nat) (s : Int) (g : List Int) : Prop where
  all : ∀ i : Nat, -(40 * (((i : Int) + 1) * ((i : Int) + 1))) ≤ g.getD i 0 ∧ g.getD i 0 ≤ 40 * (((i : Int) + 1) * ((i : Int) + 1))
  per' : per = true → ∀ i : Nat, -s ≤ g.getD i 0 ∧ g.getD i 0 ≤ s
  ord : per = false → Inv m s g.length ((aheadOf 3 g).getD g.length 0) ((aheadOf 3 g).getD (g.length + 1) 0) ((aheadOf 3 g).getD (g.length + 2) 0)
theorem ahead_snoc {g : List Int} {w : Int} {i : Nat} (h : i < 3 + g.length) : (aheadOf 3 (g ++ [w])).getD i 0 = (aheadOf 3 g).getD i 0 := by
  unfold aheadOf
  rw [← List.append_assoc, List.getD_eq_getElem?_getD, List.getElem?_append_left (by rw [List.length_append, List.length_replicate]; exact h), List.getD_eq_getElem?_getD]
theorem ahead_new {g : List Int} {w : Int} : (aheadOf 3 (g ++ [w])).getD (g.length + 3) 0 = w := by
  unfold aheadOf
  rw [← List.append_assoc, List.getD_eq_getElem?_getD, List.getElem?_append_right (by rw [List.length_append, List.length_replicate]; omega), List.length_append, List.length_replicate, show g.length + 3 - (3 + g.length) = 0 by omega]
  rfl
theorem lastK3 {m i : Nat} {f : List Int} (hi : i < m) (hm : m ≤ 3) : (lastK m f).getD i 0 = (aheadOf 3 f).getD (3 + f.length - m + i) 0 := by
  rw [lastK_getD]
  unfold aheadOf
  have e : (List.replicate 3 0 ++ f : List Int) = List.replicate (3 - m) 0 ++ (List.replicate m 0 ++ f) := by
    rw [← List.append_assoc, List.replicate_append_replicate, show 3 - m + m = 3 by omega]
  rw [e, List.getD_eq_getElem?_getD, List.getD_eq_getElem?_getD, List.getElem?_append_right (l₁ := List.replicate (3 - m) 0) (by rw [List.length_replicate]; omega), List.length_replicate]
  congr 2
  omega
theorem nx_three {m : Nat} {g : List Int} (hm : m ≤ 3) : nx false m g = nx3 m ((aheadOf 3 g).getD g.length 0) ((aheadOf 3 g).getD (g.length + 1) 0) ((aheadOf 3 g).getD (g.length + 2) 0) := by
  have hm4 : m = 0 ∨ m = 1 ∨ m = 2 ∨ m = 3 := by omega
  rcases hm4 with rfl | rfl | rfl | rfl
  · rfl
  · have e0 := lastK3 (m := 1) (i := 0) (f := g) (by decide) (by decide)
    rw [show 3 + g.length - 1 + 0 = g.length + 2 by omega] at e0
    exact e0
  · have e0 := lastK3 (m := 2) (i := 0) (f := g) (by decide) (by decide)
    have e1 := lastK3 (m := 2) (i := 1) (f := g) (by decide) (by decide)
    rw [show 3 + g.length - 2 + 0 = g.length + 1 by omega] at e0
    rw [show 3 + g.length - 2 + 1 = g.length + 2 by omega] at e1
    show 2 * (lastK 2 g).getD 1 0 - (lastK 2 g).getD 0 0 = _
    rw [e0, e1]; rfl
  · have e0 := lastK3 (m := 3) (i := 0) (f := g) (by decide) (by decide)
    have e1 := lastK3 (m := 3) (i := 1) (f := g) (by decide) (by decide)
    have e2 := lastK3 (m := 3) (i := 2) (f := g) (by decide) (by decide)
    rw [show 3 + g.length - 3 + 0 = g.length by omega] at e0
    rw [show 3 + g.length - 3 + 1 = g.length + 1 by omega] at e1
    rw [show 3 + g.length - 3 + 2 = g.length + 2 by omega] at e2
    show 3 * (lastK 3 g).getD 2 0 - 3 * (lastK 3 g).getD 1 0 + (lastK 3 g).getD 0 0 = _
    rw [e0, e1, e2]; rfl
theorem getD_snoc {g : List Int} {w : Int} (i : Nat) : (g ++ [w]).getD i 0 = if i < g.length then g.getD i 0 else if i = g.length then w else 0 := by
  rw [List.getD_eq_getElem?_getD]
  by_cases h : i < g.length
  · rw [if_pos h, List.getElem?_append_left h, List.getD_eq_getElem?_getD]
  · rw [if_neg h, List.getElem?_append_right (by omega)]
    by_cases e : i = g.length
    · rw [if_pos e, e, Nat.sub_self]; rfl
    · rw [if_neg e, List.getElem?_eq_none (by simp; omega)]; rfl
theorem Told.nil {per : Bool} {m : Nat} : Told per m 0 [] := by
  have sq : ∀ i : Nat, 0 ≤ ((i : Int) + 1) * ((i : Int) + 1) := fun i => Int.mul_nonneg (by omega) (by omega)
  refine ⟨fun i => ?_, fun _ i => ?_, fun _ => ?_⟩
  · have := sq i
    show _ ≤ (0 : Int) ∧ (0 : Int) ≤ _
    omega
  · show _ ≤ (0 : Int) ∧ (0 : Int) ≤ _
    omega
  · exact ⟨fun _ => by decide, fun _ => by decide, fun _ => by decide⟩
theorem Told.step {per : Bool} {m : Nat} {s t a : Int} {g : List Int} (ok : WayOk per m) (T : Told per m s g) (s0 : 0 ≤ s) (ht : -a ≤ t ∧ t ≤ a) (ha : s + a ≤ 40) : Told per m (s + a) (g ++ [nx per m g + t]) := by
  have sq : ∀ i : Nat, 1 ≤ ((i : Int) + 1) * ((i : Int) + 1) := fun i => by
    have : (0 + 1) * (0 + 1) ≤ ((i : Int) + 1) * ((i : Int) + 1) := Int.mul_le_mul (by omega) (by omega) (by omega) (by omega)
    omega
  have W : (-(40 * (((g.length : Int) + 1) * ((g.length : Int) + 1))) ≤ nx per m g + t ∧ nx per m g + t ≤ 40 * (((g.length : Int) + 1) * ((g.length : Int) + 1))) ∧ (per = true → -(s + a) ≤ nx per m g + t ∧ nx per m g + t ≤ s + a) ∧ (per = false → Inv m (s + a) (g.length + 1) ((aheadOf 3 g).getD (g.length + 1) 0) ((aheadOf 3 g).getD (g.length + 2) 0) (nx per m g + t)) := by
    cases per with
    | true =>
      have lo := ok.lo rfl
      have p := T.per' rfl
      have e : nx true m g = (lastK m g).getD 0 0 := rfl
      have b : -s ≤ nx true m g ∧ nx true m g ≤ s := by
        rw [e, lastK_getD, Nat.add_zero, List.getD_eq_getElem?_getD]
        by_cases h : g.length < m
        · rw [List.getElem?_append_left (by simpa using h), List.getElem?_replicate, if_pos h]
          show -s ≤ (0 : Int) ∧ (0 : Int) ≤ s
          omega
        · rw [List.getElem?_append_right (by rw [List.length_replicate]; omega), List.length_replicate, ← List.getD_eq_getElem?_getD]
          exact p _
      have := sq g.length
      exact ⟨by omega, fun _ => by omega, fun q => (nomatch q)⟩
    | false =>
      have hi := ok.hi rfl
      obtain ⟨i1, i2⟩ := inv_step hi (T.ord rfl) s0 ht ha
      rw [← nx_three hi] at i1 i2
      exact ⟨i2, fun q => (nomatch q), fun _ => i1⟩
  obtain ⟨w1, w2, w3⟩ := W
  generalize nx per m g + t = v at *
  refine ⟨fun i => ?_, fun hp i => ?_, fun hp => ?_⟩
  · rw [getD_snoc]
    have := sq i
    split
    · exact T.all i
    · split
      · rename_i e; rw [e]; exact w1
      · omega
  · rw [getD_snoc]
    have := T.per' hp i
    have := w2 hp
    split
    · omega
    · split <;> omega
  · rw [List.length_append, List.length_singleton, ahead_snoc (by omega), ahead_snoc (by omega), show g.length + 1 + 2 = g.length + 3 from rfl, ahead_new]
    exact w3 hp
theorem Told.run {per : Bool} {m : Nat} {s : Int} {g : List Int} (ok : WayOk per m) (T : Told per m s g) (s0 : 0 ≤ s) (hs : s ≤ 40) : ∀ n, Told per m s (grow per m 0 g n)
  | 0 => T
  | n + 1 => by
    have := (Told.run ok T s0 hs n).step ok (t := 0) (a := 0) s0 (by omega) (by omega)
    rw [Int.add_zero] at this
    exact this
end K26
set_option Elab.async false
set_option maxRecDepth 100000
set_option maxHeartbeats 8000000
set_option linter.all false
set_option autoImplicit false
/-! stretches of tokens -/
namespace K26
variable [DW.Tb]
open PySem PySem.Spec PyProof.Rows L2 DW
abbrev St := Nat × Bool × List Int
def stD (x : St) : D := strD x.1 x.2.1 x.2.2
theorem st_own (x : St) : isOwn (stD x) = false := rfl
def StrAt (per : Bool) (m : Nat) (f : List Int) (t : Tk) (x : St) : Prop := match t with
  | .near z => x = (1, false, [nx per m f + z])
  | .run j => x.1 = 2 ^ j ∧ x.2.1 = per ∧ RunOf per m (lastK m f) (2 ^ j) x.2.2
def toldB (per : Bool) (m : Nat) (ts : List Tk) (i : Nat) : List Int := (ts.take i).foldl (tell per m) []
structure StrOf (per : Bool) (m : Nat) (ts : List Tk) (i : Nat) (sts : List St) : Prop where
  len : sts.length = i
  at' : ∀ j t, j < i → ts[j]? = some t → ∃ x, sts[j]? = some x ∧ StrAt per m (toldB per m ts j) t x
abbrev lastoSp : DSpW := fun w es n k => ∃ (l : List Int) (per : Bool) (ns : List Int) (c : Nat), es = [.lst (l.map .int), .str (kindW per), .lst (ns.map .int), .int c] ∧ l.length ≤ 8 ∧ Small ns ∧ c ≤ 2 ^ 12 ∧ ∀ l' : List Int, k (.lst (l'.map .int)) n
abbrev strSp : DSpW := fun w es n k => ∃ (per : Bool) (m : Nat) (ts : List Tk), es = [wayD per m, .lst (ts.map tkD)] ∧ WayOk per m ∧ ts.length ≤ 5000 ∧ (∀ t ∈ ts, TkOk t) ∧ (∀ i j, ts[i]? = some (.run j) → i + 1 = ts.length) ∧ (∀ i j r, ts[i]? = some (.run j) → RunOf per m (lastK m (toldB per m ts i)) (2 ^ j) r → Small r) ∧ ∀ sts, StrOf per m ts ts.length sts → k (.lst (sts.map stD)) n
theorem ints_of {L : List Int} {f : Int → Int} : L.map (fun z => D.int (f z)) = (L.map f).map D.int := by rw [List.map_map]; rfl
theorem StrOf.add {per : Bool} {m : Nat} {ts : List Tk} {i : Nat} {sts : List St} (h : StrOf per m ts i sts) {t : Tk} (ht : ts[i]? = some t) {x : St} (hx : StrAt per m (toldB per m ts i) t x) : StrOf per m ts (i + 1) (sts ++ [x]) := by
  refine ⟨by rw [List.length_append, h.len]; rfl, fun j u hj hu => ?_⟩
  by_cases e : j = i
  · subst e
    rw [ht] at hu
    cases hu
    exact ⟨x, by rw [List.getElem?_append_right (by rw [h.len]; exact Nat.le_refl _), h.len, Nat.sub_self]; rfl, hx⟩
  · obtain ⟨y, h1, h2⟩ := h.at' j u (by omega) hu
    exact ⟨y, by rw [List.getElem?_append_left (by rw [h.len]; omega)]; exact h1, h2⟩
section
variable {K : PySem.W.Frag} {w : Option Addr} {n : Nat} {k : Kn} {es : List D} {C : Addr}
theorem w_last_of (h : lastoSp w es n k) : WpS K w (r_last_of K (toSp K naSp)) (dstart ["last", "kind", "numbers", "many", "reach", "own", "at"] es) n { nx := fun _ n' => kup k .non n', rt := kup k } := by
  obtain ⟨l, per, ns, c, rfl, hl, hs, hc, hk⟩ := h
  unfold r_last_of
  refine s_mid (mid := fun ds' n1 => n1 = n ∧ ds' = [some (.lst (l.map .int)), some (.str (kindW per)), some (.lst (ns.map .int)), some (.int c), some (.int (l.length : Int)), none, none]) ?_ ?_
  · repeat' (first
    | exact absurd ‹false = true› (by decide)
    | exact absurd ‹true = false› (by decide)
    | walk_at "way by rule"
    | walk_at "way by form"
    | fail)
    all_goals (rw [List.length_map]; rfl)
  rintro ds' n1 ⟨rfl, rfl⟩
  refine s_mid (mid := fun ds' n2 => n2 = n1 ∧ ∃ (o : List Int) (v6 : Option D), o.length ≤ 5000 ∧ ds' = [some (.lst (l.map .int)), some (.str (kindW per)), some (.lst (ns.map .int)), some (.int c), some (.int (l.length : Int)), some (.lst (o.map .int)), v6]) ?_ ?_
  · repeat' (first
    | exact absurd ‹false = true› (by decide)
    | exact absurd ‹true = false› (by decide)
    | (with_reducible refine e_lcIX ⟨fun _ => true, fun z => .int (numAt per ns z), ?_⟩)
    | walk_at "way by rule"
    | walk_at "way by form"
    | fail)
    refine ⟨_, rgD_ints _ _, by rw [List.length_map, List.length_range]; omega, fun z hz => ?_, ?_⟩
    · obtain ⟨i, hi, rfl⟩ := List.mem_map.mp hz
      have hi := List.mem_range.mp hi
      repeat' (first
    | exact absurd ‹false = true› (by decide)
    | exact absurd ‹true = false› (by decide)
    | walk_at "way by rule"
    | refine ⟨per, _, ns, _, rfl, .inl rfl, hs, by omega, by omega, ?_⟩
    | walk_at "way by form"
    | fail)
      all_goals exact ⟨rfl, rfl⟩
    · rw [map_yes, ints_of]
      exact ⟨rfl, rfl, _, _, by rw [List.length_map, List.length_map, List.length_range]; omega, rfl⟩
  rintro ds' n2 ⟨rfl, o, v6, ho, rfl⟩
  have e : DW.cutD (l.map D.int ++ o.map D.int) (some ((o.map D.int).length : Int)) none = ((l ++ o).drop o.length).map .int := by
    rw [List.length_map, ← List.map_append, cutD_from (by simp), ← List.map_drop]
  repeat' (first
    | exact absurd ‹false = true› (by decide)
    | exact absurd ‹true = false› (by decide)
    | with_reducible refine e_slL ?_
    | with_reducible refine a_star ?_
    | walk_at "way by rule"
    | refine ⟨_, .inl rfl, ?_⟩
    | with_reducible refine And.intro (by simp only [List.length_append, List.length_map, List.length_cons, List.length_nil, List.length_replicate]; omega) ?_
    | walk_at "way by form"
    | fail)
  all_goals (rw [List.append_nil, e]; exact kup_of (hk _))
theorem w_stretches_of (h : strSp w es n k) : WpS K w (r_stretches_of K (toSp K beginSp) (toSp K manySp) (toSp K nextSp) (toSp K diffSp) (toSp K movedSp) (toSp K runbySp) (toSp K lastoSp)) (dstart ["way", "tokens", "found", "last", "token", "many", "number", "kind", "numbers"] es) n { nx := fun _ n' => kup k .non n', rt := kup k } := by
  obtain ⟨per, m, ts, rfl, ok, hl, tok, lastr, sm, hk⟩ := h
  have k8 := ok.k8
  unfold r_stretches_of
  refine s_mid (mid := fun ds' n1 => n1 = n ∧ ds' = [some (wayD per m), some (.lst (ts.map tkD)), some (.own []), some (.lst ((lastK m []).map .int)), none, none, none, none, none]) (s_parOE (by decide) rfl (f_lst (a_nil ⟨by simp, ?_⟩))) ?_
  · repeat' (first
    | exact absurd ‹false = true› (by decide)
    | exact absurd ‹true = false› (by decide)
    | walk_at "way by rule"
    | refine ⟨per, m, rfl, k8, ?_⟩
    | walk_at "way by form"
    | fail)
    have e : lastK m [] = List.replicate m 0 := by unfold lastK; simp
    rw [e]
    first | rfl | exact ⟨rfl, rfl⟩ | exact ⟨rfl, rfl, rfl⟩
  rintro ds' n1 ⟨rfl, rfl⟩
  refine s_mid (mid := fun ds' n2 => n2 = n1 ∧ ∃ sts v3 v4 v5 v6 v7 v8, StrOf per m ts ts.length sts ∧ ds' = [some (wayD per m), some (.lst (ts.map tkD)), some (.own (sts.map stD)), v3, v4, v5, v6, v7, v8]) (s_for (i_listV ⟨_, rfl, ?_⟩)) ?_
  · refine ⟨fun i ds' n2 => n2 = n1 ∧ ∃ (sts : List St) (l : List Int) (v4 v5 v6 v7 v8 : Option D), StrOf per m ts i sts ∧ (i < ts.length → l = lastK m (toldB per m ts i)) ∧ ds' = [some (wayD per m), some (.lst (ts.map tkD)), some (.own (sts.map stD)), some (.lst (l.map .int)), v4, v5, v6, v7, v8], ⟨rfl, [], lastK m [], none, none, none, none, none, ⟨rfl, fun j t hj => by omega⟩, fun _ => rfl, rfl⟩, ?_, ?_⟩
    · rintro i x ds' n2 hx ⟨rfl, sts, l, v4, v5, v6, v7, v8, hS, hll, rfl⟩
      rw [List.getElem?_map] at hx
      obtain ⟨t, ht, rfl⟩ := Option.map_eq_some_iff.mp hx
      have hi := (List.getElem?_eq_some_iff.mp ht).1
      have okt := tok t (List.mem_of_getElem? ht)
      have e := hll hi
      subst e
      have tf : toldB per m ts (i + 1) = tell per m (toldB per m ts i) t := take_foldl ht
      have sl := hS.len
      refine ⟨_, _, g_name (tk_own t), ?_⟩
      refine s_mid (mid := fun ds' n3 => n3 = n2 ∧ ds' = [some (wayD per m), some (.lst (ts.map tkD)), some (.own (sts.map stD)), some (.lst ((lastK m (toldB per m ts i)).map .int)), some (tkD t), some (.int t.many), v6, v7, v8]) ?_ ?_
      · repeat' (first
    | exact absurd ‹false = true› (by decide)
    | exact absurd ‹true = false› (by decide)
    | ((with_reducible refine e_varX ?_); refine ⟨_, rfl, tk_own _, ?_⟩)
    | walk_at "way by rule"
    | refine ⟨t, rfl, okt, ?_⟩
    | walk_at "way by form"
    | fail)
        all_goals rfl
      rintro ds' n3 ⟨rfl, rfl⟩
      cases t with
      | near z =>
        repeat' (first
    | exact absurd ‹false = true› (by decide)
    | exact absurd ‹true = false› (by decide)
    | exact absurd ‹decide (_ = _) = false› (by decide)
    | walk_at "way by rule"
    | refine ⟨per, m, _, rfl, ok, lastK_len, ?_⟩
    | refine ⟨z, rfl, ?_⟩
    | refine ⟨_, _, rfl, by rw [lastK_len]; omega, ?_⟩
    | with_reducible refine And.intro (by rw [List.length_map]; omega) ?_
    | walk_at "way by form"
    | fail)
        all_goals exact ⟨sts ++ [(1, false, [nx per m (toldB per m ts i) + z])], lastK m (toldB per m ts (i + 1)), _, _, _, _, _, hS.add ht rfl, fun _ => rfl, by rw [tf, show tell per m (toldB per m ts i) (.near z) = toldB per m ts i ++ [nx per m (toldB per m ts i) + z] from rfl, ← mv_last, List.map_append]; rfl⟩
      | run j =>
        have lr := lastr i j ht
        have hj := okt j rfl
        have c1 : 2 ^ 1 ≤ 2 ^ j := Nat.pow_le_pow_right (by decide) hj.1
        have c2 : 2 ^ j ≤ 2 ^ 12 := Nat.pow_le_pow_right (by decide) hj.2
        have sr := fun r => sm i j r ht
        have mj : (Tk.run j).many = 2 ^ j := rfl
        rw [mj]
        repeat' (first
    | exact absurd ‹false = true› (by decide)
    | exact absurd ‹true = false› (by decide)
    | exact absurd (of_decide_eq_true ‹decide (_ = _) = true›) (by omega)
    | walk_at "way by rule"
    | (refine ⟨per, m, _, 2 ^ j, rfl, ok, lastK_len, c1, c2, fun r hr => ?_⟩)
    | (refine ⟨_, per, r, 2 ^ j, rfl, by rw [lastK_len]; omega, sr r hr, c2, fun l' => ?_⟩)
    | with_reducible refine And.intro (by rw [List.length_map]; omega) ?_
    | walk_at "way by form"
    | fail)
        all_goals exact ⟨sts ++ [(2 ^ j, per, r)], l', _, _, _, _, _, hS.add ht ⟨rfl, rfl, hr⟩, fun q => by omega, by rw [List.map_append]; rfl⟩
    · rintro ds' n2 ⟨rfl, sts, l, v4, v5, v6, v7, v8, hS, hll, rfl⟩
      rw [List.length_map] at hS
      exact ⟨rfl, sts, _, _, _, _, _, _, hS, rfl⟩
  rintro ds' n2 ⟨rfl, sts, v3, v4, v5, v6, v7, v8, hS, rfl⟩
  exact s_retOwn rfl (kup_of (hk sts hS))
end
end K26
set_option Elab.async false
set_option maxRecDepth 100000
set_option maxHeartbeats 8000000
set_option linter.all false
set_option autoImplicit false
/-! stretches put beside each other -/
namespace K26
variable [DW.Tb]
open PySem PySem.Spec PyProof.Rows L2 DW
def momSt (N : Nat) : List St := (List.range N).map fun i : Nat => (1, false, [(i : Int)])
def valSt (xs : List Int) (c : Nat) (per : Bool) (r : List Int) : List St := xs.map (fun v => (1, false, [v])) ++ [(c, per, r)]
def valAt (xs : List Int) (per : Bool) (r : List Int) (i : Nat) : Int := if i < xs.length then xs.getD i 0 else numAt per r ((i - xs.length : Nat) : Int)
def pcAt (xs : List Int) (per : Bool) (r : List Int) (i : Nat) : Pc := ⟨i, 0, 1, if i < xs.length then false else per, [valAt xs per r i]⟩
def pcsTo (xs : List Int) (per : Bool) (r : List Int) (i : Nat) : List Pc := (List.range i).map (pcAt xs per r)
structure ZipOk (xs : List Int) (c : Nat) (r : List Int) : Prop where
  c1 : 1 ≤ c
  c2 : c ≤ 4096
  sm : Small r
  xl : xs.length ≤ 1000
  xb : ∀ v ∈ xs, -(2 ^ 60) ≤ v ∧ v ≤ 2 ^ 60
abbrev zipSp (C : Addr) : DSpW := fun w es n k => ∃ (xs : List Int) (c : Nat) (per : Bool) (r : List Int), es = [.lst ((momSt (xs.length + c)).map stD), .lst ((valSt xs c per r).map stD)] ∧ ZipOk xs c r ∧ k (.tup ((pcsTo xs per r (xs.length + c)).map (pcO C))) n
theorem num_zero {v : Int} : numAt false [v] 0 = v := by unfold numAt pairs; simp
theorem zip_step {xs : List Int} {c : Nat} {per : Bool} {r : List Int} (ok : ZipOk xs c r) {i : Nat} (hi : i < xs.length + c) :
    ∃ (cnt : Nat) (pk : Bool) (rk : List Int), (valSt xs c per r)[min i xs.length]? = some (cnt, pk, rk) ∧ i - min i xs.length < cnt ∧ cnt ≤ 5000 ∧ Small rk ∧ pcAt xs per r i = ⟨i, 0, 1, pk, [numAt pk rk ((i - min i xs.length : Nat) : Int)]⟩ ∧
      (i - min i xs.length + 1 = cnt → i + 1 < xs.length + c → min (i + 1) xs.length = min i xs.length + 1 ∧ i + 1 - min (i + 1) xs.length = 0) ∧ (i - min i xs.length + 1 ≠ cnt → min (i + 1) xs.length = min i xs.length ∧ i + 1 - min (i + 1) xs.length = i - min i xs.length + 1) := by
  have sm := ok.sm
  have c1 := ok.c1
  have c2 := ok.c2
  unfold valSt pcAt valAt
  by_cases h : i < xs.length
  · rw [Nat.min_eq_left (by omega), Nat.sub_self, if_pos h, if_pos h]
    refine ⟨1, false, [xs.getD i 0], ?_, by omega, by omega, ⟨by simp, by simp, fun z hz => ?_⟩, by rw [show ((0 : Nat) : Int) = 0 from rfl, num_zero], fun _ h2 => ⟨by omega, by omega⟩, fun q => absurd rfl q⟩
    · rw [List.getElem?_append_left (by rw [List.length_map]; exact h), List.getElem?_map, List.getElem?_eq_getElem h, List.getD_eq_getElem?_getD, List.getElem?_eq_getElem h]
      rfl
    · rw [List.mem_singleton] at hz
      subst hz
      rw [List.getD_eq_getElem?_getD, List.getElem?_eq_getElem h]
      exact ok.xb _ (List.getElem_mem h)
  · rw [Nat.min_eq_right (by omega), if_neg h, if_neg h]
    refine ⟨c, per, r, ?_, by omega, by omega, sm, rfl, fun q h2 => by omega, fun q => ⟨by omega, by omega⟩⟩
    rw [List.getElem?_append_right (by rw [List.length_map]; exact Nat.le_refl _), List.length_map, Nat.sub_self]
    rfl
section
variable {K : PySem.W.Frag} {w : Option Addr} {n : Nat} {k : Kn} {es : List D} {C : Addr}
theorem e_mkP {ds : List (Option D)} {tA : TA} {E : XK} (h : WpA K w tA ds n fun es n1 => ∃ (p : Pc) (nd : D), es = pcIn p.m p.s p.c p.per nd ∧ IsNs nd p.ns ∧ p.ns.length ≤ 100000 ∧ k (pcO C p) n1) : WpE K w (tMake C (initSp K C gX) [] E tA) ds n k :=
  e_make (fun S H0 σ H Q re ok P => h S H0 σ H Q re ok fun vs H1 es n1 ⟨p, nd, e, h1, h2, hk⟩ pr ok1 r => P vs H1 es n1 ⟨XN, _, ⟨p.m, p.s, p.c, p.per, nd, p.ns, e, h1, h2, rfl, rfl⟩, hk⟩ pr ok1 r)
theorem w_zipped (h : zipSp C w es n k) : WpS K w (r_zipped K (toSp K cutrSp) (toSp K momsSp) C (initSp K C gX)) (dstart ["moments", "values", "found", "at", "spot", "one", "other", "count", "kind", "numbers", "first", "step"] es) n { nx := fun _ n' => kup k .non n', rt := kup k } := by
  obtain ⟨xs, c, per, r, rfl, ok, hk⟩ := h
  have xl := ok.xl
  have cc2 := ok.c2
  unfold r_zipped
  refine s_mid (mid := fun ds' n1 => n1 = n ∧ ds' = [some (.lst ((momSt (xs.length + c)).map stD)), some (.lst ((valSt xs c per r).map stD)), some (.own ((pcsTo xs per r 0).map (pcO C))), some (.int ((0 : Nat) : Int)), some (.int ((0 : Nat) : Int)), some (.int 0), some (.int ((0 : Nat) : Int)), none, none, none, none, none]) (s_tup5 (by decide) (by decide) (by decide) (by decide) ⟨rfl, rfl⟩) ?_
  rintro ds' n1 ⟨rfl, rfl⟩
  refine s_mid (mid := fun ds' n2 => n2 = n1 ∧ ∃ v3 v4 v5 v6 v7 v8 v9 v10 v11, ds' = [some (.lst ((momSt (xs.length + c)).map stD)), some (.lst ((valSt xs c per r).map stD)), some (.own ((pcsTo xs per r (xs.length + c)).map (pcO C))), v3, v4, v5, v6, v7, v8, v9, v10, v11])
    (s_while (fun q ds' n2 => n2 = n1 ∧ ∃ (i sp ot : Nat) (v7 v8 v9 v10 v11 : Option D), q = xs.length + c - i ∧ i ≤ xs.length + c ∧ (i < xs.length + c → sp = min i xs.length ∧ ot = i - min i xs.length) ∧ ds' = [some (.lst ((momSt (xs.length + c)).map stD)), some (.lst ((valSt xs c per r).map stD)), some (.own ((pcsTo xs per r i).map (pcO C))), some (.int (i : Int)), some (.int (sp : Int)), some (.int 0), some (.int (ot : Int)), v7, v8, v9, v10, v11]) (xs.length + c) ⟨rfl, 0, 0, 0, none, none, none, none, none, by omega, by omega, fun _ => by simp, rfl⟩ ?_) ?_
  · rintro q ds' n2 ⟨rfl, i, sp, ot, v7, v8, v9, v10, v11, rfl, hi, hso, rfl⟩
    have ml : ((momSt (xs.length + c)).map stD).length = xs.length + c := by unfold momSt; simp
    refine t_test (e_op (e_var rfl (e_cb (a_cons (e_var rfl (a_nil (rc_lenL (rd_lt ⟨_, rfl, fun q => ?_, fun q => ?_⟩))))))))
    · have hlt := of_decide_eq_true q
      rw [ml] at hlt
      have hlt : i < xs.length + c := by omega
      obtain ⟨e1, e2⟩ := hso hlt
      obtain ⟨cnt, pk, rk, g1, g2, g3, g4, g5, g6, g7⟩ := zip_step (per := per) ok hlt
      rw [← e2] at g2 g5 g6 g7
      rw [← e1] at g1 g6 g7
      have ixM : ∀ {k : Kn} {n : Nat}, k (stD (1, false, [(i : Int)])) n → RD K w (rIx K) (.lst ((momSt (xs.length + c)).map stD)) (.int (i : Int)) n k := fun {k n} hk => rd_ixL (atI_nat (by rw [List.getElem?_map]; unfold momSt; rw [List.getElem?_map, List.getElem?_range hlt]; rfl)) hk
      have ixV : ∀ {k : Kn} {n : Nat}, k (stD (cnt, pk, rk)) n → RD K w (rIx K) (.lst ((valSt xs c per r).map stD)) (.int (sp : Int)) n k := fun {k n} hk => rd_ixL (atI_nat (by rw [List.getElem?_map, g1]; rfl)) hk
      have ps : pcsTo xs per r (i + 1) = pcsTo xs per r i ++ [pcAt xs per r i] := by unfold pcsTo; rw [List.range_succ, List.map_append]; rfl
      have pl : (pcsTo xs per r i).length = i := by unfold pcsTo; simp
      have i0 : ∀ {x : St} {k : Kn} {n : Nat}, k (.int x.1) n → RD K w (rIx K) (stD x) (.int 0) n k := fun {x k n} hk => rd_ixT (atI_nat (j := 0) rfl) hk
      refine s_mid (mid := fun ds' n3 => n3 = n2 ∧ ds' = [some (.lst ((momSt (xs.length + c)).map stD)), some (.lst ((valSt xs c per r).map stD)), some (.own ((pcsTo xs per r i).map (pcO C))), some (.int (i : Int)), some (.int (sp : Int)), some (.int 0), some (.int (ot : Int)), some (.int 1), v8, v9, v10, v11]) ?_ ?_
      · repeat' (first
    | exact absurd ‹false = true› (by decide)
    | exact absurd ‹true = false› (by decide)
    | with_reducible refine ixM ?_
    | with_reducible refine ixV ?_
    | with_reducible refine i0 ?_
    | walk_at "way by rule"
    | walk_at "way by form"
    | fail)
        all_goals (rw [show min ((((1, false, [(i : Int)]) : St).1 : Int) - 0) ((((cnt, pk, rk) : St).1 : Int) - (ot : Int)) = 1 from by show min ((1 : Int) - 0) ((cnt : Int) - ot) = 1; omega]; rfl)
      rintro ds' n3 ⟨rfl, rfl⟩
      refine s_mid (mid := fun ds' n4 => n4 = n3 ∧ ds' = [some (.lst ((momSt (xs.length + c)).map stD)), some (.lst ((valSt xs c per r).map stD)), some (.own ((pcsTo xs per r i).map (pcO C))), some (.int (i : Int)), some (.int (sp : Int)), some (.int 0), some (.int (ot : Int)), some (.int 1), some (.str (kindW false)), some (.lst [.int (i : Int)]), v10, v11]) ?_ ?_
      · repeat' (first
    | exact absurd ‹false = true› (by decide)
    | exact absurd ‹true = false› (by decide)
    | with_reducible refine ixM ?_
    | walk_at "way by rule"
    | (refine ⟨1, false, [(i : Int)], 0, rfl, ⟨by simp, by simp, fun z hz => by rw [List.mem_singleton] at hz; subst hz; omega⟩, by omega, by omega, ?_⟩; rw [num_zero])
    | walk_at "way by form"
    | fail)
        all_goals rfl
      rintro ds' n4 ⟨rfl, rfl⟩
      refine s_mid (mid := fun ds' n4' => n4' = n4 ∧ ds' = [some (.lst ((momSt (xs.length + c)).map stD)), some (.lst ((valSt xs c per r).map stD)), some (.own ((pcsTo xs per r i).map (pcO C))), some (.int (i : Int)), some (.int (sp : Int)), some (.int 0), some (.int (ot : Int)), some (.int 1), some (.str (kindW false)), some (.lst [.int (i : Int)]), some (.int (i : Int)), some (.int 0)]) ?_ ?_
      · repeat' (first
    | exact absurd ‹false = true› (by decide)
    | exact absurd ‹true = false› (by decide)
    | walk_at "way by rule"
    | refine ⟨_, (i : Int), rfl, ?_⟩
    | walk_at "way by form"
    | fail)
        all_goals rfl
      rintro ds' n4' ⟨rfl, rfl⟩
      refine s_mid (mid := fun ds' n5 => n5 = n4' ∧ ds' = [some (.lst ((momSt (xs.length + c)).map stD)), some (.lst ((valSt xs c per r).map stD)), some (.own ((pcsTo xs per r i).map (pcO C))), some (.int (i : Int)), some (.int (sp : Int)), some (.int 0), some (.int (ot : Int)), some (.int 1), some (.str (kindW pk)), some (.lst [.int (numAt pk rk (ot : Int))]), some (.int (i : Int)), some (.int 0)]) ?_ ?_
      · repeat' (first
    | exact absurd ‹false = true› (by decide)
    | exact absurd ‹true = false› (by decide)
    | with_reducible refine ixV ?_
    | walk_at "way by rule"
    | refine ⟨cnt, pk, rk, (ot : Int), rfl, g4, by omega, by omega, ?_⟩
    | walk_at "way by form"
    | fail)
        all_goals rfl
      rintro ds' n5 ⟨rfl, rfl⟩
      repeat' (first
    | exact absurd ‹false = true› (by decide)
    | exact absurd ‹true = false› (by decide)
    | with_reducible refine e_mkP ?_
    | with_reducible refine ixM ?_
    | with_reducible refine ixV ?_
    | with_reducible refine i0 ?_
    | walk_at "way by rule"
    | refine ⟨pcAt xs per r i, _, by rw [g5]; rfl, .inl (by rw [g5]; rfl), by rw [g5]; simp, ?_⟩
    | with_reducible refine And.intro (by rw [List.length_map, pl]; omega) ?_
    | walk_at "way by form"
    | fail)
      · rename_i q9
        have q9 := of_decide_eq_true q9
        have q9 : (ot : Int) + 1 = (cnt : Int) := q9
        exact ⟨xs.length + c - (i + 1), by omega, rfl, i + 1, sp + 1, 0, _, _, _, _, _, rfl, by omega, fun h => ⟨(g6 (by omega) h).1.symm, (g6 (by omega) h).2.symm⟩, by rw [ps, List.map_append]; rfl⟩
      · rename_i q9
        have q9 := of_decide_eq_false q9
        have q9 : ¬ (ot : Int) + 1 = (cnt : Int) := q9
        exact ⟨xs.length + c - (i + 1), by omega, rfl, i + 1, sp, ot + 1, _, _, _, _, _, rfl, by omega, fun h => ⟨(g7 (by omega)).1.symm, (g7 (by omega)).2.symm⟩, by rw [ps, List.map_append]; rfl⟩
    · have hge := of_decide_eq_false q
      rw [ml] at hge
      have e : i = xs.length + c := by omega
      subst e
      exact ⟨rfl, _, _, _, _, _, _, _, _, _, rfl⟩
  rintro ds' n2 ⟨rfl, v3, v4, v5, v6, v7, v8, v9, v10, v11, rfl⟩
  refine s_freeze (i := 2) rfl ?_
  repeat' (first
    | exact absurd ‹false = true› (by decide)
    | exact absurd ‹true = false› (by decide)
    | walk_at "way by rule"
    | walk_at "way by form"
    | fail)
  all_goals exact kup_of hk
end
end K26
set_option Elab.async false
set_option maxRecDepth 100000
set_option maxHeartbeats 4000000
set_option linter.all false
set_option autoImplicit false
/-! plain: the stretches of the law's own tokens -/
namespace K26
variable [DW.Tb]
open DW
def momTk (N : Nat) : List Tk := (List.range N).map fun i => .near (if i = 1 then 1 else 0)
theorem mom_at {N i : Nat} (h : i < N) : (momTk N)[i]? = some (.near (if i = 1 then 1 else 0)) := by
  unfold momTk
  rw [List.getElem?_map, List.getElem?_range h]
  rfl
def cnts (i : Nat) : List Int := (List.range i).map fun j : Nat => (j : Int)
theorem cnts_getD {i j : Nat} (h : j < i) : (cnts i).getD j 0 = j := by
  unfold cnts
  rw [List.getD_eq_getElem?_getD, List.getElem?_map, List.getElem?_range h]
  rfl
theorem cnts_len {i : Nat} : (cnts i).length = i := by unfold cnts; simp
theorem mom_nx (i : Nat) : nx false 2 (cnts i) + (if i = 1 then 1 else 0) = (i : Int) := by
  have g : ∀ p, 2 ≤ p → p - 2 < i → (List.replicate 2 0 ++ cnts i).getD p 0 = ((p - 2 : Nat) : Int) := fun p h1 h2 => by
    rw [List.getD_eq_getElem?_getD, List.getElem?_append_right (by rw [List.length_replicate]; exact h1), List.length_replicate, ← List.getD_eq_getElem?_getD, cnts_getD h2]
  have z : ∀ p, p < 2 → (List.replicate 2 0 ++ cnts i).getD p 0 = 0 := fun p h => by
    rw [List.getD_eq_getElem?_getD, List.getElem?_append_left (by rw [List.length_replicate]; exact h), List.getElem?_replicate, if_pos h]; rfl
  show 2 * (lastK 2 (cnts i)).getD 1 0 - (lastK 2 (cnts i)).getD 0 0 + _ = _
  rw [lastK_getD, lastK_getD, cnts_len]
  match i, g, z with
  | 0, _, _ => rfl
  | 1, _, _ => rfl
  | i + 2, g, _ =>
    rw [g (i + 2 + 1) (by omega) (by omega), g (i + 2 + 0) (by omega) (by omega), if_neg (by omega)]
    omega
theorem mom_told {N : Nat} : ∀ i, i ≤ N → toldB false 2 (momTk N) i = cnts i
  | 0, _ => rfl
  | i + 1, h => by
    have e := mom_told (N := N) i (by omega)
    have t : toldB false 2 (momTk N) (i + 1) = tell false 2 (toldB false 2 (momTk N) i) (.near (if i = 1 then 1 else 0)) := take_foldl (mom_at (N := N) (by omega))
    rw [t, e]
    show cnts i ++ [nx false 2 (cnts i) + (if i = 1 then 1 else 0)] = _
    rw [mom_nx]
    unfold cnts
    rw [List.range_succ, List.map_append]
    rfl
theorem mom_sts {N : Nat} {sts : List St} (h : StrOf false 2 (momTk N) (momTk N).length sts) : sts = momSt N := by
  have l : (momTk N).length = N := by unfold momTk; simp
  rw [l] at h
  refine List.ext_getElem? fun i => ?_
  unfold momSt
  rw [List.getElem?_map]
  by_cases q : i < N
  · obtain ⟨x, h1, h2⟩ := h.at' i _ q (mom_at q)
    have h2 : x = (1, false, [nx false 2 (toldB false 2 (momTk N) i) + (if i = 1 then 1 else 0)]) := h2
    rw [mom_told i (by omega), mom_nx] at h2
    rw [h1, h2, List.getElem?_range q]
    rfl
  · rw [List.getElem?_eq_none (by rw [h.len]; omega), List.getElem?_eq_none (by simp; omega)]
    rfl
theorem nums_pre {per : Bool} {m : Nat} {zs : List Int} (i : Nat) : ∀ d, i + d ≤ zs.length → (numsOf per m ((zs.take (i + d)).map .near)).take i = numsOf per m ((zs.take i).map .near)
  | 0, h => by
    rw [Nat.add_zero, List.take_of_length_le]
    rw [near_len, List.length_take]
    omega
  | d + 1, h => by
    have hz : zs[i + d]? = some zs[i + d] := List.getElem?_eq_getElem (by omega)
    rw [show i + (d + 1) = i + d + 1 from rfl, nums_take hz, List.take_append_of_le_length (by rw [near_len, List.length_take]; omega), nums_pre i d (by omega)]
theorem nums_at {per : Bool} {m : Nat} {zs : List Int} {i : Nat} {z : Int} (h : zs[i]? = some z) : (numsOf per m (zs.map .near)).getD i 0 = nx per m (numsOf per m ((zs.take i).map .near)) + z := by
  have hi := (List.getElem?_eq_some_iff.mp h).1
  have e := nums_pre (per := per) (m := m) (zs := zs) (i + 1) (zs.length - (i + 1)) (by omega)
  rw [show i + 1 + (zs.length - (i + 1)) = zs.length by omega, List.take_length, nums_take h] at e
  have g : (numsOf per m (zs.map .near)).getD i 0 = ((numsOf per m (zs.map .near)).take (i + 1)).getD i 0 := by
    rw [List.getD_eq_getElem?_getD, List.getD_eq_getElem?_getD, List.getElem?_take, if_pos (by omega)]
  have l : (numsOf per m ((zs.take i).map .near)).length = i := by rw [near_len, List.length_take]; omega
  rw [g, e, List.getD_eq_getElem?_getD, List.getElem?_append_right (by omega), l, Nat.sub_self]
  rfl
theorem val_told {per : Bool} {m : Nat} {zs : List Int} {j i : Nat} (h : i ≤ zs.length) : toldB per m (zs.map Tk.near ++ [Tk.run j]) i = numsOf per m ((zs.take i).map .near) := by
  unfold toldB numsOf
  rw [List.take_append_of_le_length (by rw [List.length_map]; exact h), List.map_take]
theorem val_sts {per : Bool} {m : Nat} {zs : List Int} {j : Nat} {sts : List St} (h : StrOf per m (zs.map Tk.near ++ [Tk.run j]) (zs.map Tk.near ++ [Tk.run j]).length sts) : ∃ r, RunOf per m (lastK m (numsOf per m (zs.map .near))) (2 ^ j) r ∧ sts = valSt (numsOf per m (zs.map .near)) (2 ^ j) per r := by
  have l : (zs.map Tk.near ++ [Tk.run j]).length = zs.length + 1 := by simp
  rw [l] at h
  have hl : (zs.map Tk.near ++ [Tk.run j])[zs.length]? = some (.run j) := by
    rw [List.getElem?_append_right (by rw [List.length_map]; exact Nat.le_refl _), List.length_map, Nat.sub_self]; rfl
  obtain ⟨x, h1, h2⟩ := h.at' zs.length _ (by omega) hl
  rw [val_told (Nat.le_refl _), List.take_length] at h2
  obtain ⟨x1, x2, x3⟩ := x
  obtain ⟨q1, q2, q3⟩ := h2
  have q1 : x1 = 2 ^ j := q1
  have q2 : x2 = per := q2
  subst q1 q2
  refine ⟨x3, q3, List.ext_getElem? fun i => ?_⟩
  have nl : (numsOf x2 m (zs.map .near)).length = zs.length := near_len
  unfold valSt
  by_cases c : i < zs.length
  · have hz : zs[i]? = some zs[i] := List.getElem?_eq_getElem c
    obtain ⟨y, y1, y2⟩ := h.at' i _ (by omega) (show (zs.map Tk.near ++ [Tk.run j])[i]? = some (.near zs[i]) by rw [List.getElem?_append_left (by simpa using c), List.getElem?_map, hz]; rfl)
    rw [val_told (by omega)] at y2
    have y2 : y = (1, false, [nx x2 m (numsOf x2 m ((zs.take i).map .near)) + zs[i]]) := y2
    rw [← nums_at hz] at y2
    rw [y1, y2, List.getElem?_append_left (by rw [List.length_map, nl]; exact c), List.getElem?_map, List.getD_eq_getElem?_getD, List.getElem?_eq_getElem (by rw [nl]; exact c)]
    rfl
  · by_cases e : i = zs.length
    · rw [e, h1, List.getElem?_append_right (by rw [List.length_map, nl]; exact Nat.le_refl _), List.length_map, nl, Nat.sub_self]
      rfl
    · rw [List.getElem?_eq_none (by rw [h.len]; omega), List.getElem?_eq_none (by rw [List.length_append, List.length_map, nl]; simp; omega)]
end K26
set_option Elab.async false
set_option maxRecDepth 100000
set_option maxHeartbeats 8000000
set_option linter.all false
set_option autoImplicit false
/-! pieces of the law's own tokens -/
namespace K26
variable [DW.Tb]
open PySem PySem.Spec PyProof.Rows L2 DW
/-- a run's numbers and the ones ahead of it are small enough to be told as a piece -/
def RunSm (per : Bool) (m : Nat) (zs : List Int) (j : Nat) : Prop := ∀ r, RunOf per m (lastK m (numsOf per m (zs.map .near))) (2 ^ j) r → Small r
abbrev pofSp (C : Addr) : DSpW := fun w es n k => ∃ (per : Bool) (m : Nat) (zs : List Int) (j : Nat), es = [wayD false 2, .lst ((momTk (zs.length + 2 ^ j)).map tkD), wayD per m, .lst ((zs.map Tk.near ++ [Tk.run j]).map tkD)] ∧ WayOk per m ∧ 1 ≤ j ∧ j ≤ 12 ∧ zs.length ≤ 9 ∧ (∀ v ∈ numsOf per m (zs.map .near), -(2 ^ 60) ≤ v ∧ v ≤ 2 ^ 60) ∧ RunSm per m zs j ∧ ∀ r, RunOf per m (lastK m (numsOf per m (zs.map .near))) (2 ^ j) r → k (.tup ((pcsTo (numsOf per m (zs.map .near)) per r (zs.length + 2 ^ j)).map (pcO C))) n
section
variable {K : PySem.W.Frag} {w : Option Addr} {n : Nat} {k : Kn} {es : List D} {C : Addr}
theorem mom_many {N : Nat} : manyAll (momTk N) = N := by
  have : ∀ l : List Nat, manyAll (l.map fun i => Tk.near (if i = 1 then 1 else 0)) = l.length := fun l => by
    unfold manyAll
    induction l with
    | nil => rfl
    | cons a l ih => rw [List.map_cons, List.map_cons, List.sum_cons, ih, List.length_cons]; show 1 + l.length = _; omega
  unfold momTk
  rw [this, List.length_range]
theorem w_pieces_of (h : pofSp C w es n k) : WpS K w (r_pieces_of K (toSp K needWaySp) (toSp K needTkSp) (toSp K manySp) (toSp K (zipSp C)) (toSp K strSp)) (dstart ["moment_way", "moment_tokens", "value_way", "value_tokens", "many", "token"] es) n { nx := fun _ n' => kup k .non n', rt := kup k } := by
  obtain ⟨per, m, zs, j, rfl, ok, j1, j2, hz, xb, rs, hk⟩ := h
  have k8 := ok.k8
  have pj0 : 2 ^ 1 ≤ 2 ^ j := Nat.pow_le_pow_right (by decide) j1
  have pj : 2 ^ j ≤ 2 ^ 12 := Nat.pow_le_pow_right (by decide) j2
  have ml : (momTk (zs.length + 2 ^ j)).length = zs.length + 2 ^ j := by unfold momTk; simp
  have tl : (zs.map Tk.near ++ [Tk.run j]).length = zs.length + 1 := by simp
  have mtok : ∀ t ∈ momTk (zs.length + 2 ^ j), TkOk t := fun t ht => by
    obtain ⟨i, _, rfl⟩ := List.mem_map.mp ht
    exact fun i e => (nomatch e)
  have tok : ∀ t ∈ zs.map Tk.near ++ [Tk.run j], TkOk t := fun t ht => by
    rcases List.mem_append.mp ht with ht | ht
    · obtain ⟨z, _, rfl⟩ := List.mem_map.mp ht
      exact fun i e => (nomatch e)
    · rw [List.mem_singleton] at ht
      subst ht
      intro i e
      cases e
      exact ⟨j1, j2⟩
  have mm := mom_many (N := zs.length + 2 ^ j)
  have tm : manyAll (zs.map Tk.near ++ [Tk.run j]) = zs.length + 2 ^ j := by
    have : (ranOf per m zs j).length = manyAll (zs.map Tk.near ++ [Tk.run j]) := numsOf_len
    rw [← this, ran_len]
  have mnr : ∀ i q, (momTk (zs.length + 2 ^ j))[i]? = some (Tk.run q) → False := fun i q h => by
    unfold momTk at h
    rw [List.getElem?_map] at h
    obtain ⟨a, _, e⟩ := Option.map_eq_some_iff.mp h
    cases e
  have tnr : ∀ i q, (zs.map Tk.near ++ [Tk.run j])[i]? = some (Tk.run q) → i = zs.length ∧ q = j := fun i q h => by
    by_cases c : i < zs.length
    · rw [List.getElem?_append_left (by simpa using c), List.getElem?_map] at h
      obtain ⟨a, _, e⟩ := Option.map_eq_some_iff.mp h
      cases e
    · have hi := (List.getElem?_eq_some_iff.mp h).1
      have e : i = zs.length := by omega
      subst e
      rw [List.getElem?_append_right (by rw [List.length_map]; exact Nat.le_refl _), List.length_map, Nat.sub_self] at h
      cases h
      exact ⟨rfl, rfl⟩
  have nl : (numsOf per m (zs.map .near)).length = zs.length := near_len
  unfold r_pieces_of
  refine s_mid (mid := fun ds' n1 => n1 = n ∧ ds' = [some (wayD false 2), some (.lst ((momTk (zs.length + 2 ^ j)).map tkD)), some (wayD per m), some (.lst ((zs.map Tk.near ++ [Tk.run j]).map tkD)), none, none]) ?_ ?_
  · repeat' (first
    | exact absurd ‹false = true› (by decide)
    | exact absurd ‹true = false› (by decide)
    | walk_at "way by rule"
    | refine ⟨_, _, false, 2, rfl, ⟨⟨fun z => (nomatch z), fun _ => by decide⟩, .inr ⟨rfl, rfl, by decide⟩⟩, ?_⟩
    | walk_at "way by form"
    | fail)
    all_goals rfl
  rintro ds' n1 ⟨rfl, rfl⟩
  refine s_mid (mid := fun ds' n2 => n2 = n1 ∧ ds' = [some (wayD false 2), some (.lst ((momTk (zs.length + 2 ^ j)).map tkD)), some (wayD per m), some (.lst ((zs.map Tk.near ++ [Tk.run j]).map tkD)), none, none]) ?_ ?_
  · repeat' (first
    | exact absurd ‹false = true› (by decide)
    | exact absurd ‹true = false› (by decide)
    | walk_at "way by rule"
    | refine ⟨_, _, per, m, rfl, ⟨ok, .inl rfl⟩, ?_⟩
    | walk_at "way by form"
    | fail)
    all_goals rfl
  rintro ds' n2 ⟨rfl, rfl⟩
  refine s_mid (mid := fun ds' n3 => n3 = n2 ∧ ds' = [some (wayD false 2), some (.lst ((momTk (zs.length + 2 ^ j)).map tkD)), some (wayD per m), some (.lst ((zs.map Tk.near ++ [Tk.run j]).map tkD)), none, none]) ?_ ?_
  · repeat' (first
    | exact absurd ‹false = true› (by decide)
    | exact absurd ‹true = false› (by decide)
    | walk_at "way by rule"
    | refine ⟨_, momTk (zs.length + 2 ^ j), rfl, by omega, mtok, ?_⟩
    | walk_at "way by form"
    | fail)
    all_goals rfl
  rintro ds' n3 ⟨rfl, rfl⟩
  refine s_mid (mid := fun ds' n4 => n4 = n3 ∧ ds' = [some (wayD false 2), some (.lst ((momTk (zs.length + 2 ^ j)).map tkD)), some (wayD per m), some (.lst ((zs.map Tk.near ++ [Tk.run j]).map tkD)), none, none]) ?_ ?_
  · repeat' (first
    | exact absurd ‹false = true› (by decide)
    | exact absurd ‹true = false› (by decide)
    | walk_at "way by rule"
    | refine ⟨_, zs.map Tk.near ++ [Tk.run j], rfl, by omega, tok, ?_⟩
    | walk_at "way by form"
    | fail)
    all_goals rfl
  rintro ds' n4 ⟨rfl, rfl⟩
  refine s_mid (mid := fun ds' n5 => n5 = n4 ∧ ∃ v5, ds' = [some (wayD false 2), some (.lst ((momTk (zs.length + 2 ^ j)).map tkD)), some (wayD per m), some (.lst ((zs.map Tk.near ++ [Tk.run j]).map tkD)), some (.int ((zs.length + 2 ^ j : Nat) : Int)), v5]) ?_ ?_
  · repeat' (first
    | exact absurd ‹false = true› (by decide)
    | exact absurd ‹true = false› (by decide)
    | (with_reducible refine rc_sumM ?_)
    | (guard_target =~ WpE _ _ _ _ _ _; first | ((with_reducible refine e_lcGX ⟨tkD, fun _ => true, fun t => .int (t.many : Int), tk_own, ?_⟩)) | ((with_reducible refine e_varX ?_); refine ⟨_, rfl, tk_own _, ?_⟩))
    | walk_at "way by rule"
    | refine ⟨momTk (zs.length + 2 ^ j), rfl, by omega, fun z hz => ?_, ?_⟩
    | refine ⟨_, rfl, mtok _ ‹_›, ?_⟩
    | walk_at "way by form"
    | fail)
    all_goals (rw [cast_sum, mm]; first | exact ⟨_, rfl⟩ | exact ⟨rfl, _, rfl⟩ | exact ⟨rfl, rfl, _, rfl⟩)
  rintro ds' n5 ⟨rfl, v5, rfl⟩
  refine s_mid (mid := fun ds' n6 => n6 = n5 ∧ ∃ v5, ds' = [some (wayD false 2), some (.lst ((momTk (zs.length + 2 ^ j)).map tkD)), some (wayD per m), some (.lst ((zs.map Tk.near ++ [Tk.run j]).map tkD)), some (.int ((zs.length + 2 ^ j : Nat) : Int)), v5]) ?_ ?_
  · repeat' (first
    | exact absurd ‹false = true› (by decide)
    | exact absurd ‹true = false› (by decide)
    | (with_reducible refine rc_sumM ?_)
    | (guard_target =~ WpE _ _ _ _ _ _; first | ((with_reducible refine e_lcGX ⟨tkD, fun _ => true, fun t => .int (t.many : Int), tk_own, ?_⟩)) | ((with_reducible refine e_varX ?_); refine ⟨_, rfl, tk_own _, ?_⟩))
    | walk_at "way by rule"
    | refine ⟨zs.map Tk.near ++ [Tk.run j], rfl, by omega, fun z hz => ?_, ?_⟩
    | refine ⟨_, rfl, tok _ ‹_›, ?_⟩
    | walk_at "way by form"
    | fail)
    · rename_i q _
      exact absurd (of_decide_eq_true q) (by omega)
    · rename_i _ q
      rw [cast_sum, tm] at q
      simp at q
    · exact ⟨_, rfl⟩
  rintro ds' n6 ⟨rfl, v5, rfl⟩
  repeat' (first
    | exact absurd ‹false = true› (by decide)
    | exact absurd ‹true = false› (by decide)
    | walk_at "way by rule"
    | refine ⟨false, 2, momTk (zs.length + 2 ^ j), rfl, ⟨fun z => (nomatch z), fun _ => by decide⟩, by omega, mtok, fun i q h => (mnr i q h).elim, fun i q r h => (mnr i q h).elim, fun sts hs => ?_⟩
    | refine ⟨per, m, zs.map Tk.near ++ [Tk.run j], rfl, ok, by omega, tok, fun i q h => by rw [tl, (tnr i q h).1], fun i q r h hr => ?_, fun sts2 hs2 => ?_⟩
    | walk_at "way by form"
    | fail)
  · obtain ⟨e1, e2⟩ := tnr i q h
    rw [e1, e2, val_told (Nat.le_refl _), List.take_length] at hr
    exact rs r hr
  · have e1 := mom_sts hs
    obtain ⟨r, hr, e2⟩ := val_sts hs2
    subst e1 e2
    refine ⟨numsOf per m (zs.map .near), 2 ^ j, per, r, by rw [nl], ⟨by omega, by omega, rs r hr, by omega, xb⟩, ?_⟩
    rw [nl]
    exact kup_of (hk r hr)
end
end K26
set_option Elab.async false
set_option maxRecDepth 100000
set_option maxHeartbeats 8000000
set_option linter.all false
set_option autoImplicit false
/-! rows of single points; the point at an index -/
namespace K26
variable [DW.Tb]
open PySem PySem.Spec PyProof.Rows L2 DW
theorem num_one {per : Bool} {v : Int} {i : Int} (h : i = 0) : numAt per [v] i = v := by
  subst h
  cases per with
  | true => rfl
  | false => exact num_zero
theorem pc_good {i : Nat} {per : Bool} {v : Int} (hi : i < 2 ^ 39) (hv : -(2 ^ 40) ≤ v ∧ v ≤ 2 ^ 40) : Good ⟨i, 0, 1, per, [v]⟩ := by
  refine ⟨by show (1 : Int) ≤ 1; omega, by show (1 : Int) ≤ 2 ^ 41; omega, fun _ => rfl, fun h => by have h : (1 : Int) < 1 := h; omega, by show (0 : Int) ≤ i; omega, by show (i : Int) + 0 * (1 - 1) ≤ 2 ^ 40 - 1; omega, ⟨by show 1 ≤ 1; omega, by show 1 ≤ 1000; omega, fun z hz => ?_⟩, by show (1 : Int) ≤ 1; omega, by show 1 ≤ if per = true then 8 else 3; split <;> omega, fun _ => .inl rfl, fun j j0 j1 => ?_⟩
  · have hz : z ∈ [v] := hz
    rw [List.mem_singleton] at hz
    subst hz
    omega
  · have j1 : j < 1 := j1
    show _ ≤ numAt per [v] j ∧ numAt per [v] j ≤ _
    rw [num_one (show j = 0 by omega)]
    exact hv
theorem pcs_get {xs : List Int} {per : Bool} {r : List Int} {N i : Nat} (h : i < N) : (pcsTo xs per r N)[i]? = some (pcAt xs per r i) := by
  unfold pcsTo
  rw [List.getElem?_map, List.getElem?_range h]
  rfl
theorem pcs_len {xs : List Int} {per : Bool} {r : List Int} {N : Nat} : (pcsTo xs per r N).length = N := by unfold pcsTo; simp
theorem pcs_row {xs : List Int} {per : Bool} {r : List Int} {N : Nat} (hN : N ≤ 100000) (hv : ∀ i, i < N → -(2 ^ 40) ≤ valAt xs per r i ∧ valAt xs per r i ≤ 2 ^ 40) : Row (pcsTo xs per r N) := by
  refine ⟨by rw [pcs_len]; exact hN, fun p hp => ?_, fun i p q h1 h2 => ?_⟩
  · obtain ⟨i, hi, rfl⟩ := List.mem_map.mp hp
    have hi := List.mem_range.mp hi
    exact pc_good (by omega) (hv i hi)
  · have l2 := (List.getElem?_eq_some_iff.mp h2).1
    rw [pcs_len] at l2
    rw [pcs_get (by omega)] at h1
    rw [pcs_get l2] at h2
    cases h1
    cases h2
    show (i : Int) + 0 * (1 - 1) < ((i + 1 : Nat) : Int)
    omega
abbrev vaSp (C : Addr) : DSpW := fun w es n k => ∃ p i, es = [pcO C p, .int i] ∧ Small p.ns ∧ 0 ≤ i ∧ i ≤ 2 ^ 60 ∧ k (.int (numAt p.per p.ns i)) n
abbrev ptAtSp (C : Addr) : DSpW := fun w es n k => ∃ (ps : List Pc) (i : Nat) (p : Pc), es = [.tup (ps.map (pcO C)), .int (i : Int)] ∧ Row ps ∧ (∀ p ∈ ps, p.c = 1) ∧ ps[i]? = some p ∧ k (.tup [.int p.m, .int (numAt p.per p.ns 0)]) n
theorem cnt_ones : ∀ {ps : List Pc}, (∀ p ∈ ps, p.c = 1) → (ps.map (·.c)).sum = (ps.length : Int)
  | [], _ => rfl
  | p :: ps, h => by
    have := cnt_ones (ps := ps) fun q hq => h q (List.mem_cons_of_mem _ hq)
    have := h p (List.mem_cons_self ..)
    rw [List.map_cons, List.sum_cons, List.length_cons]
    omega
section
variable {K : PySem.W.Frag} {w : Option Addr} {n : Nat} {k : Kn} {es : List D} {C : Addr}
theorem w_value_at (T : ClT K C XN) (h : vaSp C w es n k) : WpS K w (r_value_at K (toSp K naSp)) (dstart ["piece", "index"] es) n { nx := fun _ n' => kup k .non n', rt := kup k } := by
  obtain ⟨p, i, rfl, hs, h1, h2, hk⟩ := h
  unfold r_value_at
  repeat' (first
    | exact absurd ‹false = true› (by decide)
    | exact absurd ‹true = false› (by decide)
    | ((with_reducible refine e_fldX ?_); refine ⟨_, _, _, rfl, T, by decide +kernel, _, rfl, ?_⟩)
    | walk_at "way by rule"
    | refine ⟨_, _, _, _, rfl, .inr rfl, hs, h1, h2, ?_⟩
    | walk_at "way by form"
    | fail)
  all_goals exact kup_of hk
theorem w_point_at (T : ClT K C XN) (h : ptAtSp C w es n k) : WpS K w (r_point_at K (toSp K (needPSp C)) (toSp K withinSp) (toSp K (momSp C)) (toSp K (vaSp C))) (dstart ["pieces", "index", "piece"] es) n { nx := fun _ n' => kup k .non n', rt := kup k } := by
  obtain ⟨ps, i, p, rfl, R, one, hp, hk⟩ := h
  have hi := (List.getElem?_eq_some_iff.mp hp).1
  have ones := cnt_ones one
  have hd : IsPs C (.tup (ps.map (pcO C))) ps := .inr rfl
  unfold r_point_at
  refine s_mid (mid := fun ds' n' => n' = n ∧ ds' = [some (.tup (ps.map (pcO C))), some (.int (i : Int)), none]) ?_ ?_
  · repeat' (first
    | exact absurd ‹false = true› (by decide)
    | exact absurd ‹true = false› (by decide)
    | walk_at "way by rule"
    | refine ⟨_, _, ps, rfl, hd, R, ?_⟩
    | walk_at "way by form"
    | fail)
    all_goals rfl
  rintro ds' n' ⟨rfl, rfl⟩
  refine s_mid (mid := fun ds' n'' => n'' = n' ∧ ds' = [some (.tup (ps.map (pcO C))), some (.int (i : Int)), none]) ?_ ?_
  · repeat' (first
    | exact absurd ‹false = true› (by decide)
    | exact absurd ‹true = false› (by decide)
    | (with_reducible refine rc_sumM ?_)
    | (guard_target =~ WpE _ _ _ _ _ _; first | ((with_reducible refine e_lcGX ⟨pcO C, fun _ => true, fun p => .int p.c, fun _ => rfl, ?_⟩); refine i_tupV ⟨_, rfl, ?_⟩) | ((with_reducible refine e_fldX ?_); refine ⟨_, _, _, rfl, T, by decide +kernel, _, rfl, ?_⟩))
    | walk_at "way by rule"
    | refine ⟨ps, rfl, R.len, fun z hz => ?_, ?_⟩
    | refine ⟨_, _, _, rfl, ?_⟩
    | walk_at "way by form"
    | fail)
    all_goals first
      | rfl
      | (rename_i q
         rw [ones, decide_eq_true (show (0 : Int) ≤ i by omega), decide_eq_true (show (i : Int) ≤ (ps.length : Int) - 1 by omega)] at q
         cases q)
  rintro ds' n'' ⟨rfl, rfl⟩
  refine s_mid (mid := fun ds' n3 => n3 = n'' ∧ ds' = [some (.tup (ps.map (pcO C))), some (.int 0), some (pcO C p)]) (s_for (i_tupV ⟨_, rfl, ?_⟩)) ?_
  · refine ⟨fun j ds' n3 => n3 = n'' ∧ j ≤ i ∧ ∃ v2, ds' = [some (.tup (ps.map (pcO C))), some (.int ((i : Int) - j)), v2], ⟨rfl, Nat.zero_le _, none, by rw [show ((i : Int) - ((0 : Nat) : Int)) = i by omega]⟩, ?_, ?_⟩
    · rintro j x ds' n3 hx ⟨rfl, hj, v2, rfl⟩
      rw [List.getElem?_map] at hx
      obtain ⟨q, hq, rfl⟩ := Option.map_eq_some_iff.mp hx
      have c1 := one q (List.mem_of_getElem? hq)
      refine ⟨_, _, g_name rfl, ?_⟩
      repeat' (first
    | exact absurd ‹false = true› (by decide)
    | exact absurd ‹true = false› (by decide)
    | ((with_reducible refine e_fldX ?_); refine ⟨_, _, _, rfl, T, by decide +kernel, _, rfl, ?_⟩)
    | (guard_target =~ WpS _ _ _ _ _ _; first | (with_reducible refine s_brk ?_) | (with_reducible refine s_augX ?_))
    | walk_at "way by rule"
    | walk_at "way by form"
    | fail)
      · rename_i z
        have z := of_decide_eq_true z
        have e : j = i := by omega
        subst e
        rw [hp] at hq
        cases hq
        rw [show ((j : Int) - (j : Int)) = 0 by omega]
        rfl
      · rename_i z
        have z := of_decide_eq_false z
        exact ⟨by omega, _, by rw [c1, show ((i : Int) - (j : Int) - 1) = (i : Int) - ((j + 1 : Nat) : Int) by omega]; rfl⟩
    · rintro ds' n3 ⟨rfl, hj, v2, rfl⟩
      rw [List.length_map] at hj
      omega
  rintro ds' n3 ⟨rfl, rfl⟩
  have g := R.good p (List.mem_of_getElem? hp)
  repeat' (first
    | exact absurd ‹false = true› (by decide)
    | exact absurd ‹true = false› (by decide)
    | walk_at "way by rule"
    | (refine ⟨_, _, _, _, _, _, rfl, by omega, by omega, ?_⟩)
    | (refine ⟨_, _, rfl, g.small, by omega, by omega, ?_⟩)
    | walk_at "way by form"
    | fail)
  all_goals (rw [Int.mul_zero, Int.add_zero]; exact kup_of hk)
end
end K26
set_option Elab.async false
set_option maxRecDepth 100000
set_option maxHeartbeats 4000000
set_option linter.all false
set_option autoImplicit false
/-! plain: the law's own pieces and numbers agree, and are small -/
namespace K26
variable [DW.Tb]
open DW
theorem nums_told {per : Bool} {m : Nat} (ok : WayOk per m) {zs : List Int} (hl : zs.length ≤ 4) (hb : ∀ z ∈ zs, -10 ≤ z ∧ z ≤ 10) : ∀ i, i ≤ zs.length → Told per m (10 * (i : Int)) (numsOf per m ((zs.take i).map .near))
  | 0, _ => Told.nil
  | i + 1, h => by
    have T := nums_told ok hl hb i (by omega)
    have hz : zs[i]? = some zs[i] := List.getElem?_eq_getElem (by omega)
    have b := hb zs[i] (List.getElem_mem _)
    rw [nums_take hz]
    have e := T.step ok (t := zs[i]) (a := 10) (by omega) b (by omega)
    rw [show 10 * (i : Int) + 10 = 10 * ((i + 1 : Nat) : Int) by omega] at e
    exact e
theorem told_bnd {per : Bool} {m : Nat} {s : Int} {g : List Int} (T : Told per m s g) (i : Nat) (h : i ≤ 5000) : -(2 ^ 40) ≤ g.getD i 0 ∧ g.getD i 0 ≤ 2 ^ 40 := by
  have a := T.all i
  have : ((i : Int) + 1) * ((i : Int) + 1) ≤ 5001 * 5001 := Int.mul_le_mul (by omega) (by omega) (by omega) (by omega)
  omega
theorem ran_told {per : Bool} {m : Nat} (ok : WayOk per m) {zs : List Int} (hl : zs.length ≤ 4) (hb : ∀ z ∈ zs, -10 ≤ z ∧ z ≤ 10) (n : Nat) : Told per m 40 (grow per m 0 (numsOf per m (zs.map .near)) n) := by
  have T := nums_told ok hl hb zs.length (Nat.le_refl _)
  rw [List.take_length] at T
  have T2 : Told per m 40 (numsOf per m (zs.map .near)) := by
    refine ⟨T.all, fun hp i => by have := T.per' hp i; omega, fun hp => ?_⟩
    obtain ⟨a, b, c⟩ := T.ord hp
    exact ⟨fun h => by have := a h; omega, fun h => by have := b h; omega, fun h => by have := c h; omega⟩
  exact T2.run ok (by omega) (by omega) n
theorem runQ_bnd {per : Bool} {m : Nat} (ok : WayOk per m) {zs : List Int} (hl : zs.length ≤ 4) (hb : ∀ z ∈ zs, -10 ≤ z ∧ z ≤ 10) {q : Nat} (hq : q ≤ 4900) : -(2 ^ 40) ≤ runQ per m (numsOf per m (zs.map .near)) q ∧ runQ per m (numsOf per m (zs.map .near)) q ≤ 2 ^ 40 := by
  have T := ran_told ok hl hb (q + 1)
  have e := grow_get (per := per) (k := m) (d := 0) (f := numsOf per m (zs.map .near)) (n := q + 1) (q := q) (by omega)
  have b := told_bnd T ((numsOf per m (zs.map .near)).length + q) (by rw [near_len]; omega)
  rw [e, Int.add_zero] at b
  exact b
theorem val_ran {per : Bool} {m : Nat} (ok : WayOk per m) {zs : List Int} {j : Nat} {r : List Int} (h : RunOf per m (lastK m (numsOf per m (zs.map .near))) (2 ^ j) r) {i : Nat} (hi : i < zs.length + 2 ^ j) : valAt (numsOf per m (zs.map .near)) per r i = (ranOf per m zs j).getD i 0 := by
  unfold valAt
  rw [near_len]
  by_cases c : i < zs.length
  · rw [if_pos c, ← ran_take (j := j), List.getD_eq_getElem?_getD, List.getElem?_take, if_pos c, List.getD_eq_getElem?_getD]
  · rw [if_neg c, run_num ok h (by omega)]
    have e := grow_get (per := per) (k := m) (d := 0) (f := numsOf per m (zs.map .near)) (n := 2 ^ j) (q := i - zs.length) (by omega)
    rw [near_len, show zs.length + (i - zs.length) = i by omega, Int.add_zero] at e
    rw [ran_eq, e]
    rfl
theorem run_small {per : Bool} {m : Nat} (ok : WayOk per m) {zs : List Int} {j : Nat} (j1 : 1 ≤ j) (hl : zs.length ≤ 4) (hb : ∀ z ∈ zs, -10 ≤ z ∧ z ≤ 10) : RunSm per m zs j := by
  intro r h
  have c1 : 2 ^ 1 ≤ 2 ^ j := Nat.pow_le_pow_right (by decide) j1
  cases per with
  | true =>
    have lo := ok.lo rfl
    have e := h.1 rfl
    have l : r.length = min (2 ^ j) m := by rw [e, List.length_take, lastK_len]
    refine ⟨by omega, by omega, fun z hz => ?_⟩
    have T := nums_told ok hl hb zs.length (Nat.le_refl _)
    rw [List.take_length] at T
    rw [e] at hz
    have hz := List.mem_of_mem_take hz
    unfold lastK at hz
    have hz := List.mem_of_mem_drop hz
    rcases List.mem_append.mp hz with hz | hz
    · have := List.eq_of_mem_replicate hz
      subst this
      decide
    · obtain ⟨i, _, rfl⟩ := mem_ints hz
      have := T.per' rfl i
      omega
  | false =>
    have t := h.2 rfl
    rw [itL_getD (by decide), itL_getD (by decide), itL_getD (by decide)] at t
    have b0 := runQ_bnd ok hl hb (q := 0) (by omega)
    have b1 := runQ_bnd ok hl hb (q := 1) (by omega)
    have b2 := runQ_bnd ok hl hb (q := 2) (by omega)
    have tl := t.len
    rw [List.length_take] at tl
    simp only [List.length_cons, List.length_nil] at tl
    refine ⟨tl.1, by omega, fun z hz => ?_⟩
    obtain ⟨q, e, _⟩ := t
    rw [e] at hz
    have hz := List.mem_of_mem_take (List.mem_of_mem_take hz)
    simp only [List.mem_cons, List.not_mem_nil, or_false] at hz
    omega
theorem nums_bnd {per : Bool} {m : Nat} (ok : WayOk per m) {zs : List Int} (hl : zs.length ≤ 4) (hb : ∀ z ∈ zs, -10 ≤ z ∧ z ≤ 10) : ∀ v ∈ numsOf per m (zs.map .near), -(2 ^ 60) ≤ v ∧ v ≤ 2 ^ 60 := fun v hv => by
  have T := nums_told ok hl hb zs.length (Nat.le_refl _)
  rw [List.take_length] at T
  obtain ⟨i, hi, rfl⟩ := mem_ints hv
  rw [near_len] at hi
  have := told_bnd T i (by omega)
  omega
end K26
set_option Elab.async false
set_option maxRecDepth 100000
set_option maxHeartbeats 8000000
set_option linter.all false
set_option autoImplicit false
/-! the law's own: pieces of a run -/
namespace K26
variable [DW.Tb]
open PySem PySem.Spec PyProof.Rows L2 DW
abbrev lpieceSp : DSpW := fun w es n k => ∃ (p : Addr), w = some p ∧ es = [.raw (.ref p)] ∧ n < 2 ^ 18 ∧ k (.bl true) (n + 40)
theorem mom_toks {N : Nat} (h : 2 ≤ N) : [D.int 0, .int 1] ++ (List.replicate (N - 2) 0).map D.int = (momTk N).map tkD := by
  unfold momTk
  rw [List.map_map]
  refine List.ext_getElem? fun i => ?_
  rw [List.getElem?_map]
  by_cases q : i < N
  · rw [List.getElem?_range q]
    match i, q with
    | 0, _ => rfl
    | 1, _ => rfl
    | i + 2, q =>
      rw [List.getElem?_append_right (by simp), List.getElem?_map, List.getElem?_replicate, if_pos (by simp; omega)]
      show some (D.int 0) = some (tkD (.near (if i + 2 = 1 then 1 else 0)))
      rw [if_neg (by omega)]
      rfl
  · rw [List.getElem?_eq_none (by simp; omega), List.getElem?_eq_none (by simp; omega)]
    rfl
section
variable {K : PySem.W.Frag} {w : Option Addr} {n : Nat} {k : Kn} {es : List D} {C : Addr}
theorem rd_eqPair {a b : Int} (hk : k (.bl true) n) : RD K w (rEqU K) (.tup [.int a, .int b]) (.tup [.int a, .int b]) n k := by
  refine rd_eqD rfl rfl rfl rfl ?_
  have e : PyData.eqv (toPy (.tup [.int a, .int b])) (toPy (.tup [.int a, .int b])) = true := by
    show ((a == a) && ((b == b) && true)) = true
    simp
  rw [e]; exact hk
theorem rd_nePair {a b : Int} (hk : k (.bl false) n) : RD K w (rNeU K) (.tup [.int a, .int b]) (.tup [.int a, .int b]) n k := by
  refine rd_neD rfl rfl rfl rfl ?_
  have e : PyData.eqv (toPy (.tup [.int a, .int b])) (toPy (.tup [.int a, .int b])) = true := by
    show ((a == a) && ((b == b) && true)) = true
    simp
  rw [e]; exact hk
theorem w__law_piece_right (T : ClT K C XN) (h : lpieceSp w es n k) : WpS K w (r__law_piece_right K (toSp K lwaySp) (toSp K drawSp) (toSp K numsSp) (toSp K (pofSp C)) (toSp K (ptAtSp C))) (dstart ["pen", "way", "j", "ahead", "numbers", "many", "pieces", "turn", "at", "piece"] es) n { nx := fun _ n' => kup k .non n', rt := kup k } := by
  obtain ⟨p, rfl, rfl, hn, hk⟩ := h
  have same : ∀ {α : Type} [DecidableEq α] (x : α), (!decide (x = x)) = false := fun x => by simp
  unfold r__law_piece_right
  refine s_mid (mid := fun ds' n1 => n1 ≤ n + 3 ∧ ∃ (per : Bool) (m j : Nat), WayOk per m ∧ 1 ≤ j ∧ j ≤ 12 ∧ ds' = [some (.raw (.ref p)), some (wayD per m), some (.int j), none, none, none, none, none, none, none]) ?_ ?_
  · repeat' (first
    | exact absurd ‹false = true› (by decide)
    | exact absurd ‹true = false› (by decide)
    | walk_at "way by rule"
    | refine ⟨p, rfl, rfl, by omega, fun per m ok => ?_⟩
    | refine ⟨p, _, rfl, rfl, by omega, by omega, by omega, fun y y0 y1 => ?_⟩
    | walk_at "way by form"
    | fail)
    all_goals first
      | (obtain ⟨i, rfl⟩ := Int.eq_ofNat_of_zero_le y0
         exact ⟨per, m, 1 + i, ok, by omega, by omega, by rw [show (1 : Int) + (i : Int) = ((1 + i : Nat) : Int) by omega]; rfl⟩)
      | trace_state
  rintro ds' n1 ⟨hn1, per, m, j, ok, j1, j2, rfl⟩
  have k8 := ok.k8
  have pj0 : 2 ^ 1 ≤ 2 ^ j := Nat.pow_le_pow_right (by decide) j1
  have pj : 2 ^ j ≤ 2 ^ 12 := Nat.pow_le_pow_right (by decide) j2
  refine s_mid (mid := fun ds' n2 => n2 ≤ n1 + 5 ∧ ∃ (zs : List Int) (v7 : Option D), 1 ≤ zs.length ∧ zs.length ≤ 4 ∧ (∀ z ∈ zs, -10 ≤ z ∧ z ≤ 10) ∧ ds' = [some (.raw (.ref p)), some (wayD per m), some (.int j), some (.lst (zs.map .int)), none, none, none, v7, none, none]) ?_ ?_
  · refine s_set (e_lcInts (P := fun z => -10 ≤ z ∧ z ≤ 10) 1 (i_rng1 ?_))
    repeat' (first
    | exact absurd ‹false = true› (by decide)
    | exact absurd ‹true = false› (by decide)
    | walk_at "way by rule"
    | refine ⟨p, 4, rfl, rfl, by omega, by omega, by omega, fun y y0 y1 => ?_⟩
    | walk_at "way by form"
    | fail)
    refine ⟨by rw [rgD_len]; omega, fun q x n5 hx hn5 => ?_, fun ns hl hb n5 hn5 => ?_⟩
    · obtain ⟨hq, rfl⟩ := rgD_get hx
      refine ⟨rfl, ?_⟩
      repeat' (first
    | exact absurd ‹false = true› (by decide)
    | exact absurd ‹true = false› (by decide)
    | walk_at "way by rule"
    | refine ⟨p, _, rfl, rfl, by omega, by omega, by omega, fun y y0 y1 => ?_⟩
    | walk_at "way by form"
    | fail)
      all_goals first | exact ⟨⟨by omega, by omega⟩, Nat.le_refl _⟩ | exact Nat.le_refl _ | trace_state
    · rw [rgD_len] at hl hn5
      exact ⟨rfl, by omega, ns, _, by omega, by omega, hb, rfl⟩
  rintro ds' n2 ⟨hn2, zs, v7, z1, z4, zb, rfl⟩
  have tk : zs.map D.int ++ [D.tup [.str "run", .int j]] = (zs.map Tk.near ++ [Tk.run j]).map tkD := by rw [List.map_append, List.map_map]; rfl
  have tok : ∀ t ∈ zs.map Tk.near ++ [Tk.run j], TkOk t := fun t ht => by
    rcases List.mem_append.mp ht with ht | ht
    · obtain ⟨z, _, rfl⟩ := List.mem_map.mp ht
      exact fun i e => (nomatch e)
    · rw [List.mem_singleton] at ht
      subst ht
      intro i e
      cases e
      exact ⟨j1, j2⟩
  have tl : (zs.map Tk.near ++ [Tk.run j]).length ≤ 50000 := by simp; omega
  have rl := ran_len (per := per) (m := m) (zs := zs) (j := j)
  have tm : manyAll (zs.map Tk.near ++ [Tk.run j]) ≤ 50000 := by
    have : (ranOf per m zs j).length = manyAll (zs.map Tk.near ++ [Tk.run j]) := numsOf_len
    rw [← this, rl]; omega
  refine s_mid (mid := fun ds' n3 => n3 = n2 ∧ ds' = [some (.raw (.ref p)), some (wayD per m), some (.int j), some (.lst (zs.map .int)), some (.tup ((ranOf per m zs j).map .int)), some (.int (zs.length : Int)), none, v7, none, none]) ?_ ?_
  · repeat' (first
    | exact absurd ‹false = true› (by decide)
    | exact absurd ‹true = false› (by decide)
    | (rw [tk]; refine ⟨per, m, _, rfl, ok, tl, tok, tm, ?_⟩)
    | walk_at "way by rule"
    | (with_reducible refine And.intro (by simp only [List.length_append, List.length_map, List.length_cons, List.length_nil]; omega) ?_)
    | walk_at "way by form"
    | fail)
    all_goals first | rfl | (rw [List.length_map]; rfl) | trace_state
  rintro ds' n3 ⟨rfl, rfl⟩
  have repB : ∀ {z j : Int} {n : Nat} {k : Kn}, 0 ≤ j → j ≤ 5000 → k (.lst ((List.replicate j.toNat z).map .int)) n → RD K (some p) rMulU (.lst [.int z]) (.int j) n k := fun {z j n k} h1 h2 hk => rd_rep (by omega) (by omega) (by simp; omega) (by rw [rep_flat]; exact hk)
  have mt := mom_toks (N := zs.length + 2 ^ j) (by omega)
  have rs := run_small (per := per) (m := m) ok j1 z4 zb
  have nb := nums_bnd (per := per) (m := m) ok z4 zb
  refine s_mid (mid := fun ds' n4 => n4 = n3 ∧ ∃ r, RunOf per m (lastK m (numsOf per m (zs.map .near))) (2 ^ j) r ∧ ds' = [some (.raw (.ref p)), some (wayD per m), some (.int j), some (.lst (zs.map .int)), some (.tup ((ranOf per m zs j).map .int)), some (.int (zs.length : Int)), some (.tup ((pcsTo (numsOf per m (zs.map .near)) per r (zs.length + 2 ^ j)).map (pcO C))), v7, none, none]) ?_ ?_
  · repeat' (first
    | exact absurd ‹false = true› (by decide)
    | exact absurd ‹true = false› (by decide)
    | refine repB (by rw [List.length_map]; omega) (by rw [List.length_map]; omega) ?_
    | (rw [tk, List.length_map, rl, show (((zs.length + 2 ^ j : Nat) : Int) - 2).toNat = zs.length + 2 ^ j - 2 by omega, mt]; refine ⟨per, m, zs, j, rfl, ok, j1, j2, by omega, nb, rs, fun r hr => ?_⟩)
    | walk_at "way by rule"
    | (with_reducible refine And.intro (by simp only [List.length_append, List.length_map, List.length_cons, List.length_nil, List.length_replicate]; omega) ?_)
    | walk_at "way by form"
    | fail)
    all_goals first | exact ⟨r, hr, rfl⟩ | trace_state
  rintro ds' n4 ⟨rfl, r, hr, rfl⟩
  have vr := fun i h => val_ran ok (j := j) hr (i := i) h
  have vb : ∀ i, i < zs.length + 2 ^ j → -(2 ^ 40) ≤ valAt (numsOf per m (zs.map .near)) per r i ∧ valAt (numsOf per m (zs.map .near)) per r i ≤ 2 ^ 40 := fun i h => by
    rw [vr i h, ran_eq]
    exact told_bnd (ran_told ok z4 zb _) i (by omega)
  have R := pcs_row (xs := numsOf per m (zs.map .near)) (per := per) (r := r) (N := zs.length + 2 ^ j) (by omega) vb
  have one : ∀ q ∈ pcsTo (numsOf per m (zs.map .near)) per r (zs.length + 2 ^ j), q.c = 1 := fun q hq => by
    obtain ⟨i, _, rfl⟩ := List.mem_map.mp hq
    rfl
  have ones := cnt_ones one
  rw [pcs_len] at ones
  have plen := pcs_len (xs := numsOf per m (zs.map .near)) (per := per) (r := r) (N := zs.length + 2 ^ j)
  have callP : ∀ {i : Nat} {k : Kn} {n : Nat}, i < zs.length + 2 ^ j → k (.tup [.int (i : Int), .int ((ranOf per m zs j).getD i 0)]) n → ptAtSp C (some p) [.tup ((pcsTo (numsOf per m (zs.map .near)) per r (zs.length + 2 ^ j)).map (pcO C)), .int (i : Int)] n k := fun {i k n} h hk => by
    refine ⟨_, i, _, rfl, R, one, pcs_get h, ?_⟩
    have e : numAt (pcAt (numsOf per m (zs.map .near)) per r i).per (pcAt (numsOf per m (zs.map .near)) per r i).ns 0 = (ranOf per m zs j).getD i 0 := by
      show numAt _ [valAt _ per r i] 0 = _
      rw [num_one rfl, vr i h]
    rw [e]
    exact hk
  have ixN : ∀ {i : Nat} {k : Kn} {n : Nat}, i < zs.length + 2 ^ j → k (.int ((ranOf per m zs j).getD i 0)) n → RD K (some p) (rIx K) (.tup ((ranOf per m zs j).map .int)) (.int (i : Int)) n k := fun {i k n} h hk => rd_ixNs (.inr rfl) ⟨⟨by omega, by omega⟩, hk⟩
  refine s_mid (mid := fun ds' n5 => n5 = n4 ∧ ∃ v9, ds' = [some (.raw (.ref p)), some (wayD per m), some (.int j), some (.lst (zs.map .int)), some (.tup ((ranOf per m zs j).map .int)), some (.int (zs.length : Int)), some (.tup ((pcsTo (numsOf per m (zs.map .near)) per r (zs.length + 2 ^ j)).map (pcO C))), v7, none, v9]) ?_ ?_
  · repeat' (first
    | exact absurd ‹false = true› (by decide)
    | exact absurd ‹true = false› (by decide)
    | (with_reducible refine rc_sumM ?_)
    | exact absurd ‹_› (by rw [ones, List.length_map, rl, same]; decide)
    | (guard_target =~ WpE _ _ _ _ _ _; first | ((with_reducible refine e_lcGX ⟨pcO C, fun _ => true, fun p => .int p.c, fun _ => rfl, ?_⟩); refine i_tupV ⟨_, rfl, ?_⟩) | ((with_reducible refine e_fldX ?_); refine ⟨_, _, _, rfl, T, by decide +kernel, _, rfl, ?_⟩))
    | walk_at "way by rule"
    | refine ⟨pcsTo (numsOf per m (zs.map .near)) per r (zs.length + 2 ^ j), rfl, by omega, fun z hz => ?_, ?_⟩
    | walk_at "way by form"
    | fail)
    all_goals first | exact ⟨_, rfl⟩ | exact ⟨rfl, _, rfl⟩ | trace_state
  rintro ds' n5 ⟨rfl, v9, rfl⟩
  refine s_mid (mid := fun ds' n6 => n6 ≤ n5 + 6 ∧ ∃ v7 v8, ds' = [some (.raw (.ref p)), some (wayD per m), some (.int j), some (.lst (zs.map .int)), some (.tup ((ranOf per m zs j).map .int)), some (.int (zs.length : Int)), some (.tup ((pcsTo (numsOf per m (zs.map .near)) per r (zs.length + 2 ^ j)).map (pcO C))), v7, v8, v9]) (s_for (i_rng1 (a_cons (e_int (a_nil ⟨6, rfl, by decide, by decide, ?_⟩))))) ?_
  · refine ⟨fun i ds' n6 => n6 ≤ n5 + i ∧ ∃ v7 v8, ds' = [some (.raw (.ref p)), some (wayD per m), some (.int j), some (.lst (zs.map .int)), some (.tup ((ranOf per m zs j).map .int)), some (.int (zs.length : Int)), some (.tup ((pcsTo (numsOf per m (zs.map .near)) per r (zs.length + 2 ^ j)).map (pcO C))), v7, v8, v9], ⟨by omega, v7, none, rfl⟩, ?_, ?_⟩
    · rintro i x ds' n6 hx ⟨hn6, v7, v8, rfl⟩
      obtain ⟨hi, rfl⟩ := rgD_get hx
      have hi : i < 6 := hi
      refine ⟨_, _, g_name rfl, ?_⟩
      refine s_mid (mid := fun ds' n7 => n7 ≤ n6 + 1 ∧ ∃ a : Nat, a < zs.length + 2 ^ j ∧ ds' = [some (.raw (.ref p)), some (wayD per m), some (.int j), some (.lst (zs.map .int)), some (.tup ((ranOf per m zs j).map .int)), some (.int (zs.length : Int)), some (.tup ((pcsTo (numsOf per m (zs.map .near)) per r (zs.length + 2 ^ j)).map (pcO C))), some (.int (0 + (i : Int))), some (.int (a : Int)), v9]) ?_ ?_
      · repeat' (first
    | exact absurd ‹false = true› (by decide)
    | exact absurd ‹true = false› (by decide)
    | walk_at "way by rule"
    | refine ⟨p, _, rfl, rfl, by rw [List.length_map]; omega, by rw [List.length_map]; omega, by omega, fun y y0 y1 => ?_⟩
    | walk_at "way by form"
    | fail)
        all_goals (rw [List.length_map] at y1; obtain ⟨a, rfl⟩ := Int.eq_ofNat_of_zero_le y0; first | exact ⟨a, by omega, rfl⟩ | exact ⟨by omega, a, by omega, rfl⟩)
      rintro ds' n7 ⟨hn7, a, ha, rfl⟩
      repeat' (first
    | exact absurd ‹false = true› (by decide)
    | exact absurd ‹true = false› (by decide)
    | refine callP ha ?_
    | with_reducible refine ixN ha ?_
    | with_reducible refine rd_nePair ?_
    | walk_at "way by rule"
    | walk_at "way by form"
    | fail)
      all_goals first | exact ⟨by omega, _, _, rfl⟩ | exact ⟨_, _, rfl⟩ | trace_state
    · rintro ds' n6 ⟨hn6, v7, v8, rfl⟩
      rw [rgD_len] at hn6
      have hn6 : n6 ≤ n5 + 6 := hn6
      exact ⟨by omega, v7, v8, rfl⟩
  rintro ds' n6 ⟨hn6, v7, v8, rfl⟩
  have hz : zs.length < zs.length + 2 ^ j := by omega
  repeat' (first
    | exact absurd ‹false = true› (by decide)
    | exact absurd ‹true = false› (by decide)
    | refine callP hz ?_
    | with_reducible refine ixN hz ?_
    | with_reducible refine rd_eqPair ?_
    | walk_at "way by rule"
    | walk_at "way by form"
    | fail)
  all_goals first | exact ⟨n + 40, by omega, hk⟩ | trace_state
end
end K26
set_option Elab.async false
set_option maxRecDepth 100000
set_option maxHeartbeats 8000000
set_option linter.all false
set_option autoImplicit false
/-! the law -/
namespace K26
variable [DW.Tb]
open PySem PySem.Spec PyProof.Rows L2 DW
section
variable {K : PySem.W.Frag} {p : Addr}
abbrev restL (K : PySem.W.Frag) : TS := (tSeq (tFor (iRng1 (tCons (tC (.int 6)) tNil)) (gName 2) (tIfS (tNot (tB (tCall (toSp K lrightSp) [] E0 (tCons (tVar 1) tNil)))) (tRet (tC (.bl false))) tNext)) (tRet (tCall (toSp K lpieceSp) [] E0 (tCons (tVar 1) tNil))))
theorem w_rest : WpS K (some p) (restL K) [none, some (.raw (.ref p)), none] 0 { nx := fun _ _ => False, rt := fun d _ => d = .bl true } := by
  unfold restL
  refine s_mid (mid := fun ds' n => n ≤ 4000 ∧ ∃ v2, ds' = [none, some (.raw (.ref p)), v2]) (s_for (i_rng1 (a_cons (e_int (a_nil ⟨6, rfl, by decide, by decide, ?_⟩))))) ?_
  · refine ⟨fun j ds' n => n ≤ 40 * j ∧ ∃ v2, ds' = [none, some (.raw (.ref p)), v2], ⟨by omega, none, rfl⟩, ?_, ?_⟩
    · rintro j x ds' n hx ⟨hn, v2, rfl⟩
      obtain ⟨hj, rfl⟩ := rgD_get hx
      have hj' : j < 6 := by simpa using hj
      refine ⟨_, _, g_name rfl, ?_⟩
      repeat' (first
    | exact absurd ‹false = true› (by decide)
    | exact absurd ‹true = false› (by decide)
    | walk_at "way by rule"
    | refine ⟨p, rfl, rfl, by omega, ?_⟩
    | walk_at "way by form"
    | fail)
      all_goals first
        | exact ⟨_, rfl⟩
        | exact ⟨by omega, _, rfl⟩
        | trace_state
    · rintro ds' n ⟨hn, v2, rfl⟩
      rw [rgD_len] at hn
      have hn : n ≤ 40 * 6 := hn
      exact ⟨by omega, v2, rfl⟩
  rintro ds' n ⟨hn, v2, rfl⟩
  repeat' (first
    | exact absurd ‹false = true› (by decide)
    | exact absurd ‹true = false› (by decide)
    | walk_at "way by rule"
    | refine ⟨p, rfl, rfl, by omega, ?_⟩
    | walk_at "way by form"
    | fail)
  all_goals first | rfl | trace_state
theorem law_reads {a : Addr} {ns : List Int} {H : Hp} {Q : VK} (hS : SqL K H a (ns.map V.int)) (hl : ns.length ≤ 63) (hT : ∀ T, Tb.tab T = true → H T = some (.tbl #[])) (hQ : ∀ H', Q (.bl true) H') :
    r_law K (penSp K) (toSp K lrightSp) (toSp K lpieceSp)
      { nx := fun _ H' => Q .non H', rt := Q } (start ["script", "pen", "turn"] [.ref a]) H := law_go (m := 1) rfl (fun p => w_rest) hS hl hT hQ
end
end K26
set_option Elab.async false
set_option maxRecDepth 100000
set_option maxHeartbeats 8000000
set_option linter.all false
set_option autoImplicit false
/-! a def within a def: first_beyond -/
namespace K26
variable [DW.Tb]
open PySem PySem.Spec PyProof.Rows L2 DW LamX
section
variable {P : Program} {w : World} {K : PySem.W.Frag} {mg : Str → Option Value} {base : Heap} {C_Piece : Addr}
variable (T : Txt K mg C_Piece)
include T
abbrev outN : Str := "is_out"
theorem go_beyond {f cR PR : Addr} {oc kV doc pm ct : Value} {od an : Option Addr} {sl : Array (Option Value)} (lk : K.lookup f = some ⟨oc, od, .func (PySem.W.fnOf "first_beyond" "first_beyond" (defArgs s_first_beyond) (defBody s_first_beyond) (defScope s_first_beyond) .none kV doc pm an (.ref cR) ct), sl⟩)
    (hc : PySem.W.codeIn K (.ref cR) "first_beyond" = true) (hk : PySem.W.keepIn K (.ref f) = true) (hm : mg "first_beyond" = some (.ref f)) (TB : TabB base mg cR PR) (hP : Tb.tab PR = true) (hnm : ∀ a b, Tb.nm PR a b = "first_beyond.<locals>.is_out")
    {g : Addr} {fd : FuncData} (F_first_such : Fun K "first_such" "first_such" s_first_such g fd) (m_first_such : mg "first_such" = some (.ref g)) (b_first_such : Binds K fd ["begin", "behind", "is_such"] [])
    (G_number_at : Go P w K mg base 2 "number_at" (toSp K naSp) []) (G_turn_of : Go P w K mg base 2 "turn_of" (toSp K turnSp) []) : Go P w K mg base 4 "first_beyond" (toSp K beyondSp) [] := by
  have PT : (PR, Tb.nm PR) ∈ (Tb.tabs.map fun a => (a, Tb.nm a)) := List.mem_map.mpr ⟨PR, of_decide_eq_true hP, rfl⟩
  have PU : ∀ p ∈ (Tb.tabs.map fun a => (a, Tb.nm a)), p.1 = PR → p.2 = Tb.nm PR := fun p hp e => by
    obtain ⟨a, _, rfl⟩ := List.mem_map.mp hp
    have e : a = PR := e
    rw [← e]
  refine ⟨f, _, ["kind", "numbers", "count", "low", "high"], [], fn_of lk hc sc_first_beyond (fun vs H Q E h => ?_) (fun A outer s H vs Q E hr h => ?_), hm, hk, (fun_mk lk hc hk).binds fun _ _ _ _ _ _ us hl => match us, hl with | [_, _, _, _, _], _ => rfl, .nil⟩
  · obtain ⟨w, S, es, n, k, r, ok, hs, p⟩ := h
    rw [r.length]
    obtain ⟨_, _, _, _, rfl, _⟩ := hs
    rfl
  obtain ⟨w', S, es, n, k, r, ok, hs, p⟩ := h
  have hu : (A.deeper (envOfC "first_beyond" (defScope s_first_beyond) s.heap.objs.size f (.ref cR))).units + 64 < cLine := by have := hr.un; omega
  let cells := (envOfC "first_beyond" (defScope s_first_beyond) s.heap.objs.size f (.ref cR)).cells
  let mk : Addr → NdefX.NF := NdefX.NF.of s_first_beyond_is_out "is_out" "first_beyond.<locals>.is_out" (cloFrom cells (C8.fnScope s_first_beyond_is_out).names [])
  have hbody := body_ok (w_first_beyond (mk := mk) (G := fun _ _ _ _ _ => False) hP (fun _ => rfl) hs) r ok p.up
  have free0 : ∀ y ∈ (C8.fnScope s_first_beyond_is_out).names, y.2 = .free → (defScope s_first_beyond).names.lookup y.1 = some .cell := fun y hy e => by
    have := (by decide +kernel : (C8.fnScope s_first_beyond_is_out).names.all (fun y => !decide (y.2 = .free) || decide ((defScope s_first_beyond).names.lookup y.1 = some .cell)) = true)
    have := List.all_eq_true.mp this y hy
    rw [e] at this
    exact of_decide_eq_true (by simpa using this)
  have N_is_out : ∀ (f' c' : Addr), NdefX.NOk P w K mg base CX0 3 f' (mk c') ["at"] ["kind", "numbers", "low", "high"] (toSpNL K 4 outSp) := fun f' c' => by
    refine NdefX.nok_of (N := ["at", "kind", "numbers", "low", "high"]) (NdefX.nscope_by (show NdefX.nscB _ _ _ (C8.fnScope s_first_beyond_is_out) = true by decide +kernel)) (fun doc pm ctv us hl => match us, hl with | [_], _ => rfl) (fun ws vs H Q E h => ?_) fun A outer s H vs ws Q E hr h1 h2 hw h => ?_
    · obtain ⟨hw, cvs, rfl, w, S, es, n, k, r, ok, hs, p⟩ := h
      obtain ⟨_, _, _, _, rfl, _⟩ := hs
      have h1 := r.length
      rw [List.length_append] at h1
      rw [List.length_map] at hw
      simp only [List.length_cons, List.length_nil] at *
      omega
    · obtain ⟨_, cvs, rfl, w, S, es, n, k, r, ok, hs, p⟩ := h
      refine ⟨_, (pss_one (ps_ret (pe_not (pe_chain op_le op_le (pv 3) (pe_go G_number_at hr (pa_cons (pv 1) (pa_cons (pv 2) (pa_cons (pv 0) pa_nil)))) (pv 4))))), ?_⟩
      rw [startF_app]
      exact body_ok (w_is_out hs) r ok p.up
  have ND : PS (cxOf CX0 P w K mg base ["kind", "numbers", "count", "low", "high", "found", "is_out", "turn", "at"] "first_beyond" (defScope s_first_beyond) f (.ref cR) A outer s H E).nox s_first_beyond_is_out (NdefX.tNdefM (Tb.tabs.map fun a => (a, Tb.nm a)) 6 mk) :=
    NdefX.ps_ndefMS rfl TB rfl PT (by rw [hnm]; rfl) PU (fun y hy e => .inl (free0 y hy e)) (by decide +kernel) (by decide +kernel) (by rfl) sc_first_beyond.nd rfl (by first | exact Or.inl rfl | exact Or.inr rfl) (by first | exact Or.inl rfl | exact Or.inr rfl)
  have C_is_out : (cxOf CX0 P w K mg base ["kind", "numbers", "count", "low", "high", "found", "is_out", "turn", "at"] "first_beyond" (defScope s_first_beyond) f (.ref cR) A outer s H E).nox.Ok → NdefX.Caps (cxOf CX0 P w K mg base ["kind", "numbers", "count", "low", "high", "found", "is_out", "turn", "at"] "first_beyond" (defScope s_first_beyond) f (.ref cR) A outer s H E).nox (cloFrom cells (C8.fnScope s_first_beyond_is_out).names []) ["kind", "numbers", "low", "high"] [0, 1, 3, 4] := fun okx =>
    NdefX.Caps.made okx (fun y hy e => .inl (free0 y hy e)) (by decide +kernel) rfl
  have hps : PSs (cxOf CX0 P w K mg base ["kind", "numbers", "count", "low", "high", "found", "is_out", "turn", "at"] "first_beyond" (defScope s_first_beyond) f (.ref cR) A outer s H E).nox (defBody s_first_beyond) (r_first_beyond K mk (toSpNL K 4 outSp) (fun _ _ _ _ _ => False) (toSp K turnSp)) := (pss_cons (ps_if (pt_cmpR (op_eqU hu) (pv 0) pe_str (nomark _)) (pss_cons (ps_setLc (i := 5) (own := [("at", 8)]) (by rfl) sc_first_beyond.nd rfl rfl (sw_true rfl rfl rfl (by decide +kernel)) (pi_range1 (by rfl) T.b_range (pa_cons (pe_callB (call_minU rfl hu) (by rfl) T.b_min (by rfl) (pa_cons (pe_callB call_lenU (by rfl) T.b_len (by rfl) (pa_cons (pv 1) pa_nil)) (pa_cons (pv 2) pa_nil))) pa_nil)) (blkOk_by (N := ["kind", "numbers", "count", "low", "high", "found", "is_out", "turn", "at"]) (sc := defScope s_first_beyond) (by decide +kernel)) (fun _ _ _ _ _ => (pg_name (i := 8) sc_first_beyond.nd rfl (by first | exact Or.inl rfl | exact Or.inr rfl))) (fun _ _ _ _ _ => (pts_one (pt_not (pt_chain op_le op_le (pv 3) (pe_ix ix_seq (pv 1) (pv 8) (fun _ _ => rfl)) (pv 4))))) (fun _ _ _ _ _ => (pv 8))) (pss_one (ps_ret (pe_ifExp (pt_cmpR (op_neU hu) (pv 5) (pe_lst pa_nil) (nomark _)) (pe_ix ix_seq (pv 5) pe_int (fun _ _ => rfl)) (pv 2))))) pss_nil) (pss_cons ND (pss_cons (ps_set (i := 7) sc_first_beyond.nd rfl (by first | exact Or.inl rfl | exact Or.inr rfl) (pe_go G_turn_of hr (pa_cons (pv 1) (pa_cons (pv 2) pa_nil)))) (pss_cons (ps_if (pt_val (NdefX.pe_calln N_is_out (fun _ => rfl) C_is_out hr (by decide) pass0 rfl (by first | exact Or.inl rfl | exact Or.inr (Or.inl rfl) | exact Or.inr (Or.inr rfl)) (pa_cons pe_int pa_nil))) (pss_one (ps_ret pe_int)) pss_nil) (pss_cons (ps_if (pt_val (NdefX.pe_calln N_is_out (fun _ => rfl) C_is_out hr (by decide) pass0 rfl (by first | exact Or.inl rfl | exact Or.inr (Or.inl rfl) | exact Or.inr (Or.inr rfl)) (pa_cons (pv 7) pa_nil))) (pss_one (ps_ret (pe_callG F_first_such sc_first_such m_first_such b_first_such (fun _ => rfl) C_is_out hr (pa_cons pe_int (pa_cons (pv 7) (pa_cons (pv 6) pa_nil))) (fun cdv s1 H1 c1 ws1 vs1 Q1 C hr1 h1 => h1.elim)))) pss_nil) (pss_one (ps_ret (pe_ifExp (pt_val (NdefX.pe_calln N_is_out (fun _ => rfl) C_is_out hr (by decide) pass0 rfl (by first | exact Or.inl rfl | exact Or.inr (Or.inl rfl) | exact Or.inr (Or.inr rfl)) (pa_cons (pe_op op_sub (pv 2) pe_int) pa_nil))) (pe_callG F_first_such sc_first_such m_first_such b_first_such (fun _ => rfl) C_is_out hr (pa_cons (pv 7) (pa_cons (pv 2) (pa_cons (pv 6) pa_nil))) (fun cdv s1 H1 c1 ws1 vs1 Q1 C hr1 h1 => h1.elim)) (pv 2)))))))))
  exact ⟨_, hps.nox, hbody⟩
end
end K26
set_option Elab.async false
set_option maxRecDepth 100000
set_option maxHeartbeats 8000000
set_option linter.all false
set_option autoImplicit false
namespace K26
open PySem PySem.Spec PyProof.Rows L2 DW
theorem all_mk [tb0 : DW.Tb] {P : Program} {w : World} {K : PySem.W.Frag} {h : Heap} {mg : Str → Option Value} {fa : Addr} (X : K.In h) (G : h.Ns mainGlobals mg) (hfa : mg "law" = some (.ref fa)) (hown0 : OwnTabX K mg h "first_beyond")
    {f0 f1 f2 f3 f4 f5 f6 f7 f8 f9 f10 f11 f12 f13 f14 f15 f16 f17 f18 f19 f20 f21 f22 f23 f24 f25 f26 f27 f28 f29 f30 f31 f32 f33 f34 f35 f36 f37 f38 f39 f40 f41 f42 f43 f44 f45 f46 f47 f48 f49 fR0 cR0 PR0 C_Piece fPiece ccPiece cdaPiece fPPiece a_KINDS a_LANES : Addr} {od0 an0 od1 an1 od2 an2 od3 an3 od4 an4 od5 an5 od6 an6 od7 an7 od8 an8 od9 an9 od10 an10 od11 an11 od12 an12 od13 an13 od14 an14 od15 an15 od16 an16 od17 an17 od18 an18 od19 an19 od20 an20 od21 an21 od22 an22 od23 an23 od24 an24 od25 an25 od26 an26 od27 an27 od28 an28 od29 an29 od30 an30 od31 an31 od32 an32 od33 an33 od34 an34 od35 an35 od36 an36 od37 an37 od38 an38 od39 an39 od40 an40 od41 an41 od42 an42 od43 an43 od44 an44 od45 an45 od46 an46 od47 an47 od48 an48 od49 an49 odR0 anR0 ddR0 odPiece anPiece cddPiece cldPiece odPPiece anPPiece d_KINDS d_LANES : Option Addr} {sl0 sl1 sl2 sl3 sl4 sl5 sl6 sl7 sl8 sl9 sl10 sl11 sl12 sl13 sl14 sl15 sl16 sl17 sl18 sl19 sl20 sl21 sl22 sl23 sl24 sl25 sl26 sl27 sl28 sl29 sl30 sl31 sl32 sl33 sl34 sl35 sl36 sl37 sl38 sl39 sl40 sl41 sl42 sl43 sl44 sl45 sl46 sl47 sl48 sl49 slR0 slcR0 slPiece ccsPiece cslPiece slPPiece sl_KINDS sl_LANES : Array (Option Value)} {oc0 kV0 dc0 pm0 cd0 ct0 oc1 kV1 dc1 pm1 cd1 ct1 oc2 kV2 dc2 pm2 cd2 ct2 oc3 kV3 dc3 pm3 cd3 ct3 oc4 kV4 dc4 pm4 cd4 ct4 oc5 kV5 dc5 pm5 cd5 ct5 oc6 kV6 dc6 pm6 cd6 ct6 oc7 kV7 dc7 pm7 cd7 ct7 oc8 kV8 dc8 pm8 cd8 ct8 oc9 kV9 dc9 pm9 cd9 ct9 oc10 kV10 dc10 pm10 cd10 ct10 oc11 kV11 dc11 pm11 cd11 ct11 oc12 kV12 dc12 pm12 cd12 ct12 oc13 kV13 dc13 pm13 cd13 ct13 oc14 kV14 dc14 pm14 cd14 ct14 oc15 kV15 dc15 pm15 cd15 ct15 oc16 kV16 dc16 pm16 cd16 ct16 oc17 kV17 dc17 pm17 cd17 ct17 oc18 kV18 dc18 pm18 cd18 ct18 oc19 kV19 dc19 pm19 cd19 ct19 oc20 kV20 dc20 pm20 cd20 ct20 oc21 kV21 dc21 pm21 cd21 ct21 oc22 kV22 dc22 pm22 cd22 ct22 oc23 kV23 dc23 pm23 cd23 ct23 oc24 kV24 dc24 pm24 cd24 ct24 oc25 kV25 dc25 pm25 cd25 ct25 oc26 kV26 dc26 pm26 cd26 ct26 oc27 kV27 dc27 pm27 cd27 ct27 oc28 kV28 dc28 pm28 cd28 ct28 oc29 kV29 dc29 pm29 cd29 ct29 oc30 kV30 dc30 pm30 cd30 ct30 oc31 kV31 dc31 pm31 cd31 ct31 oc32 kV32 dc32 pm32 cd32 ct32 oc33 kV33 dc33 pm33 cd33 ct33 oc34 kV34 dc34 pm34 cd34 ct34 oc35 kV35 dc35 pm35 cd35 ct35 oc36 kV36 dc36 pm36 cd36 ct36 oc37 kV37 dc37 pm37 cd37 ct37 oc38 kV38 dc38 pm38 cd38 ct38 oc39 kV39 dc39 pm39 cd39 ct39 oc40 kV40 dc40 pm40 cd40 ct40 oc41 kV41 dc41 pm41 cd41 ct41 oc42 kV42 dc42 pm42 cd42 ct42 oc43 kV43 dc43 pm43 cd43 ct43 oc44 kV44 dc44 pm44 cd44 ct44 oc45 kV45 dc45 pm45 cd45 ct45 oc46 kV46 dc46 pm46 cd46 ct46 oc47 kV47 dc47 pm47 cd47 ct47 oc48 kV48 dc48 pm48 cd48 ct48 oc49 kV49 dc49 pm49 cd49 ct49 ocR0 kVR0 dcR0 pmR0 ctR0 eR0 ocPiece kVPiece dcPiece pmPiece ctPiece cclPiece cl_Piece ocPPiece kVPPiece dcPPiece pmPPiece cdPPiece ctPPiece : Value} {vsR0 : Array Value} {vsPiece : Array Value} {filePiece : Str} {tfPiece : Tok} {n_KINDS : Nat} {ta_KINDS0 : Tok} {ta_KINDS1 : Tok} {n_LANES : Nat} {ta_LANES0 : Tok} {ta_LANES1 : Tok} {tk_MOST_COUNT : Tok} {tk_MOST_MOMENT : Tok} {tk_MOST_NUMBERS : Tok} {tk_MOST_ORDER : Tok} {tk_MOST_PERIOD : Tok} {tk_MOST_RUN : Tok} {tk_MOST_VALUE : Tok}
    (a0 : PySem.W.nsIn K mainGlobals "_law_pen" = some (some (.ref f0)))
    (l0 : K.lookup f0 = some ⟨oc0, od0, .func (PySem.W.fnOf "_law_pen" "_law_pen" (defArgs s__law_pen) (defBody s__law_pen) (defScope s__law_pen) .none kV0 dc0 pm0 an0 cd0 ct0), sl0⟩)
    (c0 : PySem.W.codeIn K cd0 "_law_pen" = true)
    (k0 : PySem.W.keepIn K (.ref f0) = true)
    (a1 : PySem.W.nsIn K mainGlobals "_law_draw" = some (some (.ref f1)))
    (l1 : K.lookup f1 = some ⟨oc1, od1, .func (PySem.W.fnOf "_law_draw" "_law_draw" (defArgs s__law_draw) (defBody s__law_draw) (defScope s__law_draw) .none kV1 dc1 pm1 an1 cd1 ct1), sl1⟩)
    (c1 : PySem.W.codeIn K cd1 "_law_draw" = true)
    (k1 : PySem.W.keepIn K (.ref f1) = true)
    (a2 : PySem.W.nsIn K mainGlobals "_law_way" = some (some (.ref f2)))
    (l2 : K.lookup f2 = some ⟨oc2, od2, .func (PySem.W.fnOf "_law_way" "_law_way" (defArgs s__law_way) (defBody s__law_way) (defScope s__law_way) .none kV2 dc2 pm2 an2 cd2 ct2), sl2⟩)
    (c2 : PySem.W.codeIn K cd2 "_law_way" = true)
    (k2 : PySem.W.keepIn K (.ref f2) = true)
    (a3 : PySem.W.nsIn K mainGlobals "is_listed" = some (some (.ref f3)))
    (l3 : K.lookup f3 = some ⟨oc3, od3, .func (PySem.W.fnOf "is_listed" "is_listed" (defArgs s_is_listed) (defBody s_is_listed) (defScope s_is_listed) .none kV3 dc3 pm3 an3 cd3 ct3), sl3⟩)
    (c3 : PySem.W.codeIn K cd3 "is_listed" = true)
    (k3 : PySem.W.keepIn K (.ref f3) = true)
    (a4 : PySem.W.nsIn K mainGlobals "is_integer" = some (some (.ref f4)))
    (l4 : K.lookup f4 = some ⟨oc4, od4, .func (PySem.W.fnOf "is_integer" "is_integer" (defArgs s_is_integer) (defBody s_is_integer) (defScope s_is_integer) .none kV4 dc4 pm4 an4 cd4 ct4), sl4⟩)
    (c4 : PySem.W.codeIn K cd4 "is_integer" = true)
    (k4 : PySem.W.keepIn K (.ref f4) = true)
    (a5 : PySem.W.nsIn K mainGlobals "is_within" = some (some (.ref f5)))
    (l5 : K.lookup f5 = some ⟨oc5, od5, .func (PySem.W.fnOf "is_within" "is_within" (defArgs s_is_within) (defBody s_is_within) (defScope s_is_within) .none kV5 dc5 pm5 an5 cd5 ct5), sl5⟩)
    (c5 : PySem.W.codeIn K cd5 "is_within" = true)
    (k5 : PySem.W.keepIn K (.ref f5) = true)
    (a6 : PySem.W.nsIn K mainGlobals "is_way" = some (some (.ref f6)))
    (l6 : K.lookup f6 = some ⟨oc6, od6, .func (PySem.W.fnOf "is_way" "is_way" (defArgs s_is_way) (defBody s_is_way) (defScope s_is_way) .none kV6 dc6 pm6 an6 cd6 ct6), sl6⟩)
    (c6 : PySem.W.codeIn K cd6 "is_way" = true)
    (k6 : PySem.W.keepIn K (.ref f6) = true)
    (a7 : PySem.W.nsIn K mainGlobals "need_way" = some (some (.ref f7)))
    (l7 : K.lookup f7 = some ⟨oc7, od7, .func (PySem.W.fnOf "need_way" "need_way" (defArgs s_need_way) (defBody s_need_way) (defScope s_need_way) .none kV7 dc7 pm7 an7 cd7 ct7), sl7⟩)
    (c7 : PySem.W.codeIn K cd7 "need_way" = true)
    (k7 : PySem.W.keepIn K (.ref f7) = true)
    (a8 : PySem.W.nsIn K mainGlobals "is_token" = some (some (.ref f8)))
    (l8 : K.lookup f8 = some ⟨oc8, od8, .func (PySem.W.fnOf "is_token" "is_token" (defArgs s_is_token) (defBody s_is_token) (defScope s_is_token) .none kV8 dc8 pm8 an8 cd8 ct8), sl8⟩)
    (c8 : PySem.W.codeIn K cd8 "is_token" = true)
    (k8 : PySem.W.keepIn K (.ref f8) = true)
    (a9 : PySem.W.nsIn K mainGlobals "need_tokens" = some (some (.ref f9)))
    (l9 : K.lookup f9 = some ⟨oc9, od9, .func (PySem.W.fnOf "need_tokens" "need_tokens" (defArgs s_need_tokens) (defBody s_need_tokens) (defScope s_need_tokens) .none kV9 dc9 pm9 an9 cd9 ct9), sl9⟩)
    (c9 : PySem.W.codeIn K cd9 "need_tokens" = true)
    (k9 : PySem.W.keepIn K (.ref f9) = true)
    (a10 : PySem.W.nsIn K mainGlobals "many_by" = some (some (.ref f10)))
    (l10 : K.lookup f10 = some ⟨oc10, od10, .func (PySem.W.fnOf "many_by" "many_by" (defArgs s_many_by) (defBody s_many_by) (defScope s_many_by) .none kV10 dc10 pm10 an10 cd10 ct10), sl10⟩)
    (c10 : PySem.W.codeIn K cd10 "many_by" = true)
    (k10 : PySem.W.keepIn K (.ref f10) = true)
    (a11 : PySem.W.nsIn K mainGlobals "how_many" = some (some (.ref f11)))
    (l11 : K.lookup f11 = some ⟨oc11, od11, .func (PySem.W.fnOf "how_many" "how_many" (defArgs s_how_many) (defBody s_how_many) (defScope s_how_many) .none kV11 dc11 pm11 an11 cd11 ct11), sl11⟩)
    (c11 : PySem.W.codeIn K cd11 "how_many" = true)
    (k11 : PySem.W.keepIn K (.ref f11) = true)
    (a12 : PySem.W.nsIn K mainGlobals "reach_of" = some (some (.ref f12)))
    (l12 : K.lookup f12 = some ⟨oc12, od12, .func (PySem.W.fnOf "reach_of" "reach_of" (defArgs s_reach_of) (defBody s_reach_of) (defScope s_reach_of) .none kV12 dc12 pm12 an12 cd12 ct12), sl12⟩)
    (c12 : PySem.W.codeIn K cd12 "reach_of" = true)
    (k12 : PySem.W.keepIn K (.ref f12) = true)
    (a13 : PySem.W.nsIn K mainGlobals "begin_of" = some (some (.ref f13)))
    (l13 : K.lookup f13 = some ⟨oc13, od13, .func (PySem.W.fnOf "begin_of" "begin_of" (defArgs s_begin_of) (defBody s_begin_of) (defScope s_begin_of) .none kV13 dc13 pm13 an13 cd13 ct13), sl13⟩)
    (c13 : PySem.W.codeIn K cd13 "begin_of" = true)
    (k13 : PySem.W.keepIn K (.ref f13) = true)
    (a14 : PySem.W.nsIn K mainGlobals "next_by" = some (some (.ref f14)))
    (l14 : K.lookup f14 = some ⟨oc14, od14, .func (PySem.W.fnOf "next_by" "next_by" (defArgs s_next_by) (defBody s_next_by) (defScope s_next_by) .none kV14 dc14 pm14 an14 cd14 ct14), sl14⟩)
    (c14 : PySem.W.codeIn K cd14 "next_by" = true)
    (k14 : PySem.W.keepIn K (.ref f14) = true)
    (a15 : PySem.W.nsIn K mainGlobals "difference_by" = some (some (.ref f15)))
    (l15 : K.lookup f15 = some ⟨oc15, od15, .func (PySem.W.fnOf "difference_by" "difference_by" (defArgs s_difference_by) (defBody s_difference_by) (defScope s_difference_by) .none kV15 dc15 pm15 an15 cd15 ct15), sl15⟩)
    (c15 : PySem.W.codeIn K cd15 "difference_by" = true)
    (k15 : PySem.W.keepIn K (.ref f15) = true)
    (a16 : PySem.W.nsIn K mainGlobals "moved" = some (some (.ref f16)))
    (l16 : K.lookup f16 = some ⟨oc16, od16, .func (PySem.W.fnOf "moved" "moved" (defArgs s_moved) (defBody s_moved) (defScope s_moved) .none kV16 dc16 pm16 an16 cd16 ct16), sl16⟩)
    (c16 : PySem.W.codeIn K cd16 "moved" = true)
    (k16 : PySem.W.keepIn K (.ref f16) = true)
    (a17 : PySem.W.nsIn K mainGlobals "numbers_of" = some (some (.ref f17)))
    (l17 : K.lookup f17 = some ⟨oc17, od17, .func (PySem.W.fnOf "numbers_of" "numbers_of" (defArgs s_numbers_of) (defBody s_numbers_of) (defScope s_numbers_of) .none kV17 dc17 pm17 an17 cd17 ct17), sl17⟩)
    (c17 : PySem.W.codeIn K cd17 "numbers_of" = true)
    (k17 : PySem.W.keepIn K (.ref f17) = true)
    (a18 : PySem.W.nsIn K mainGlobals "_law_next" = some (some (.ref f18)))
    (l18 : K.lookup f18 = some ⟨oc18, od18, .func (PySem.W.fnOf "_law_next" "_law_next" (defArgs s__law_next) (defBody s__law_next) (defScope s__law_next) .none kV18 dc18 pm18 an18 cd18 ct18), sl18⟩)
    (c18 : PySem.W.codeIn K cd18 "_law_next" = true)
    (k18 : PySem.W.keepIn K (.ref f18) = true)
    (a19 : PySem.W.nsIn K mainGlobals "_law_numbers" = some (some (.ref f19)))
    (l19 : K.lookup f19 = some ⟨oc19, od19, .func (PySem.W.fnOf "_law_numbers" "_law_numbers" (defArgs s__law_numbers) (defBody s__law_numbers) (defScope s__law_numbers) .none kV19 dc19 pm19 an19 cd19 ct19), sl19⟩)
    (c19 : PySem.W.codeIn K cd19 "_law_numbers" = true)
    (k19 : PySem.W.keepIn K (.ref f19) = true)
    (a20 : PySem.W.nsIn K mainGlobals "_law_differences" = some (some (.ref f20)))
    (l20 : K.lookup f20 = some ⟨oc20, od20, .func (PySem.W.fnOf "_law_differences" "_law_differences" (defArgs s__law_differences) (defBody s__law_differences) (defScope s__law_differences) .none kV20 dc20 pm20 an20 cd20 ct20), sl20⟩)
    (c20 : PySem.W.codeIn K cd20 "_law_differences" = true)
    (k20 : PySem.W.keepIn K (.ref f20) = true)
    (a21 : PySem.W.nsIn K mainGlobals "foretold" = some (some (.ref f21)))
    (l21 : K.lookup f21 = some ⟨oc21, od21, .func (PySem.W.fnOf "foretold" "foretold" (defArgs s_foretold) (defBody s_foretold) (defScope s_foretold) .none kV21 dc21 pm21 an21 cd21 ct21), sl21⟩)
    (c21 : PySem.W.codeIn K cd21 "foretold" = true)
    (k21 : PySem.W.keepIn K (.ref f21) = true)
    (a22 : PySem.W.nsIn K mainGlobals "_law_right" = some (some (.ref f22)))
    (l22 : K.lookup f22 = some ⟨oc22, od22, .func (PySem.W.fnOf "_law_right" "_law_right" (defArgs s__law_right) (defBody s__law_right) (defScope s__law_right) .none kV22 dc22 pm22 an22 cd22 ct22), sl22⟩)
    (c22 : PySem.W.codeIn K cd22 "_law_right" = true)
    (k22 : PySem.W.keepIn K (.ref f22) = true)
    (a23 : PySem.W.nsIn K mainGlobals "padded" = some (some (.ref f23)))
    (l23 : K.lookup f23 = some ⟨oc23, od23, .func (PySem.W.fnOf "padded" "padded" (defArgs s_padded) (defBody s_padded) (defScope s_padded) .none kV23 dc23 pm23 an23 cd23 ct23), sl23⟩)
    (c23 : PySem.W.codeIn K cd23 "padded" = true)
    (k23 : PySem.W.keepIn K (.ref f23) = true)
    (a24 : PySem.W.nsIn K mainGlobals "trimmed" = some (some (.ref f24)))
    (l24 : K.lookup f24 = some ⟨oc24, od24, .func (PySem.W.fnOf "trimmed" "trimmed" (defArgs s_trimmed) (defBody s_trimmed) (defScope s_trimmed) .none kV24 dc24 pm24 an24 cd24 ct24), sl24⟩)
    (c24 : PySem.W.codeIn K cd24 "trimmed" = true)
    (k24 : PySem.W.keepIn K (.ref f24) = true)
    (a25 : PySem.W.nsIn K mainGlobals "pairs_of" = some (some (.ref f25)))
    (l25 : K.lookup f25 = some ⟨oc25, od25, .func (PySem.W.fnOf "pairs_of" "pairs_of" (defArgs s_pairs_of) (defBody s_pairs_of) (defScope s_pairs_of) .none kV25 dc25 pm25 an25 cd25 ct25), sl25⟩)
    (c25 : PySem.W.codeIn K cd25 "pairs_of" = true)
    (k25 : PySem.W.keepIn K (.ref f25) = true)
    (a26 : PySem.W.nsIn K mainGlobals "number_at" = some (some (.ref f26)))
    (l26 : K.lookup f26 = some ⟨oc26, od26, .func (PySem.W.fnOf "number_at" "number_at" (defArgs s_number_at) (defBody s_number_at) (defScope s_number_at) .none kV26 dc26 pm26 an26 cd26 ct26), sl26⟩)
    (c26 : PySem.W.codeIn K cd26 "number_at" = true)
    (k26 : PySem.W.keepIn K (.ref f26) = true)
    (a27 : PySem.W.nsIn K mainGlobals "part_of" = some (some (.ref f27)))
    (l27 : K.lookup f27 = some ⟨oc27, od27, .func (PySem.W.fnOf "part_of" "part_of" (defArgs s_part_of) (defBody s_part_of) (defScope s_part_of) .none kV27 dc27 pm27 an27 cd27 ct27), sl27⟩)
    (c27 : PySem.W.codeIn K cd27 "part_of" = true)
    (k27 : PySem.W.keepIn K (.ref f27) = true)
    (a28 : PySem.W.nsIn K mainGlobals "cut_row" = some (some (.ref f28)))
    (l28 : K.lookup f28 = some ⟨oc28, od28, .func (PySem.W.fnOf "cut_row" "cut_row" (defArgs s_cut_row) (defBody s_cut_row) (defScope s_cut_row) .none kV28 dc28 pm28 an28 cd28 ct28), sl28⟩)
    (c28 : PySem.W.codeIn K cd28 "cut_row" = true)
    (k28 : PySem.W.keepIn K (.ref f28) = true)
    (a29 : PySem.W.nsIn K mainGlobals "moments_of" = some (some (.ref f29)))
    (l29 : K.lookup f29 = some ⟨oc29, od29, .func (PySem.W.fnOf "moments_of" "moments_of" (defArgs s_moments_of) (defBody s_moments_of) (defScope s_moments_of) .none kV29 dc29 pm29 an29 cd29 ct29), sl29⟩)
    (c29 : PySem.W.codeIn K cd29 "moments_of" = true)
    (k29 : PySem.W.keepIn K (.ref f29) = true)
    (a30 : PySem.W.nsIn K mainGlobals "fixed" = some (some (.ref f30)))
    (l30 : K.lookup f30 = some ⟨oc30, od30, .func (PySem.W.fnOf "fixed" "fixed" (defArgs s_fixed) (defBody s_fixed) (defScope s_fixed) .none kV30 dc30 pm30 an30 cd30 ct30), sl30⟩)
    (c30 : PySem.W.codeIn K cd30 "fixed" = true)
    (k30 : PySem.W.keepIn K (.ref f30) = true)
    (a31 : PySem.W.nsIn K mainGlobals "zipped" = some (some (.ref f31)))
    (l31 : K.lookup f31 = some ⟨oc31, od31, .func (PySem.W.fnOf "zipped" "zipped" (defArgs s_zipped) (defBody s_zipped) (defScope s_zipped) .none kV31 dc31 pm31 an31 cd31 ct31), sl31⟩)
    (c31 : PySem.W.codeIn K cd31 "zipped" = true)
    (k31 : PySem.W.keepIn K (.ref f31) = true)
    (a32 : PySem.W.nsIn K mainGlobals "run_by" = some (some (.ref f32)))
    (l32 : K.lookup f32 = some ⟨oc32, od32, .func (PySem.W.fnOf "run_by" "run_by" (defArgs s_run_by) (defBody s_run_by) (defScope s_run_by) .none kV32 dc32 pm32 an32 cd32 ct32), sl32⟩)
    (c32 : PySem.W.codeIn K cd32 "run_by" = true)
    (k32 : PySem.W.keepIn K (.ref f32) = true)
    (a33 : PySem.W.nsIn K mainGlobals "last_of" = some (some (.ref f33)))
    (l33 : K.lookup f33 = some ⟨oc33, od33, .func (PySem.W.fnOf "last_of" "last_of" (defArgs s_last_of) (defBody s_last_of) (defScope s_last_of) .none kV33 dc33 pm33 an33 cd33 ct33), sl33⟩)
    (c33 : PySem.W.codeIn K cd33 "last_of" = true)
    (k33 : PySem.W.keepIn K (.ref f33) = true)
    (a34 : PySem.W.nsIn K mainGlobals "stretches_of" = some (some (.ref f34)))
    (l34 : K.lookup f34 = some ⟨oc34, od34, .func (PySem.W.fnOf "stretches_of" "stretches_of" (defArgs s_stretches_of) (defBody s_stretches_of) (defScope s_stretches_of) .none kV34 dc34 pm34 an34 cd34 ct34), sl34⟩)
    (c34 : PySem.W.codeIn K cd34 "stretches_of" = true)
    (k34 : PySem.W.keepIn K (.ref f34) = true)
    (a35 : PySem.W.nsIn K mainGlobals "pieces_of" = some (some (.ref f35)))
    (l35 : K.lookup f35 = some ⟨oc35, od35, .func (PySem.W.fnOf "pieces_of" "pieces_of" (defArgs s_pieces_of) (defBody s_pieces_of) (defScope s_pieces_of) .none kV35 dc35 pm35 an35 cd35 ct35), sl35⟩)
    (c35 : PySem.W.codeIn K cd35 "pieces_of" = true)
    (k35 : PySem.W.keepIn K (.ref f35) = true)
    (a36 : PySem.W.nsIn K mainGlobals "is_piece" = some (some (.ref f36)))
    (l36 : K.lookup f36 = some ⟨oc36, od36, .func (PySem.W.fnOf "is_piece" "is_piece" (defArgs s_is_piece) (defBody s_is_piece) (defScope s_is_piece) .none kV36 dc36 pm36 an36 cd36 ct36), sl36⟩)
    (c36 : PySem.W.codeIn K cd36 "is_piece" = true)
    (k36 : PySem.W.keepIn K (.ref f36) = true)
    (a37 : PySem.W.nsIn K mainGlobals "turn_of" = some (some (.ref f37)))
    (l37 : K.lookup f37 = some ⟨oc37, od37, .func (PySem.W.fnOf "turn_of" "turn_of" (defArgs s_turn_of) (defBody s_turn_of) (defScope s_turn_of) .none kV37 dc37 pm37 an37 cd37 ct37), sl37⟩)
    (c37 : PySem.W.codeIn K cd37 "turn_of" = true)
    (k37 : PySem.W.keepIn K (.ref f37) = true)
    (a38 : PySem.W.nsIn K mainGlobals "first_bad_moment" = some (some (.ref f38)))
    (l38 : K.lookup f38 = some ⟨oc38, od38, .func (PySem.W.fnOf "first_bad_moment" "first_bad_moment" (defArgs s_first_bad_moment) (defBody s_first_bad_moment) (defScope s_first_bad_moment) .none kV38 dc38 pm38 an38 cd38 ct38), sl38⟩)
    (c38 : PySem.W.codeIn K cd38 "first_bad_moment" = true)
    (k38 : PySem.W.keepIn K (.ref f38) = true)
    (a39 : PySem.W.nsIn K mainGlobals "wrong_in" = some (some (.ref f39)))
    (l39 : K.lookup f39 = some ⟨oc39, od39, .func (PySem.W.fnOf "wrong_in" "wrong_in" (defArgs s_wrong_in) (defBody s_wrong_in) (defScope s_wrong_in) .none kV39 dc39 pm39 an39 cd39 ct39), sl39⟩)
    (c39 : PySem.W.codeIn K cd39 "wrong_in" = true)
    (k39 : PySem.W.keepIn K (.ref f39) = true)
    (a40 : PySem.W.nsIn K mainGlobals "moment_at" = some (some (.ref f40)))
    (l40 : K.lookup f40 = some ⟨oc40, od40, .func (PySem.W.fnOf "moment_at" "moment_at" (defArgs s_moment_at) (defBody s_moment_at) (defScope s_moment_at) .none kV40 dc40 pm40 an40 cd40 ct40), sl40⟩)
    (c40 : PySem.W.codeIn K cd40 "moment_at" = true)
    (k40 : PySem.W.keepIn K (.ref f40) = true)
    (a41 : PySem.W.nsIn K mainGlobals "last_moment" = some (some (.ref f41)))
    (l41 : K.lookup f41 = some ⟨oc41, od41, .func (PySem.W.fnOf "last_moment" "last_moment" (defArgs s_last_moment) (defBody s_last_moment) (defScope s_last_moment) .none kV41 dc41 pm41 an41 cd41 ct41), sl41⟩)
    (c41 : PySem.W.codeIn K cd41 "last_moment" = true)
    (k41 : PySem.W.keepIn K (.ref f41) = true)
    (a42 : PySem.W.nsIn K mainGlobals "first_wrong" = some (some (.ref f42)))
    (l42 : K.lookup f42 = some ⟨oc42, od42, .func (PySem.W.fnOf "first_wrong" "first_wrong" (defArgs s_first_wrong) (defBody s_first_wrong) (defScope s_first_wrong) .none kV42 dc42 pm42 an42 cd42 ct42), sl42⟩)
    (c42 : PySem.W.codeIn K cd42 "first_wrong" = true)
    (k42 : PySem.W.keepIn K (.ref f42) = true)
    (a43 : PySem.W.nsIn K mainGlobals "are_pieces" = some (some (.ref f43)))
    (l43 : K.lookup f43 = some ⟨oc43, od43, .func (PySem.W.fnOf "are_pieces" "are_pieces" (defArgs s_are_pieces) (defBody s_are_pieces) (defScope s_are_pieces) .none kV43 dc43 pm43 an43 cd43 ct43), sl43⟩)
    (c43 : PySem.W.codeIn K cd43 "are_pieces" = true)
    (k43 : PySem.W.keepIn K (.ref f43) = true)
    (a44 : PySem.W.nsIn K mainGlobals "need_pieces" = some (some (.ref f44)))
    (l44 : K.lookup f44 = some ⟨oc44, od44, .func (PySem.W.fnOf "need_pieces" "need_pieces" (defArgs s_need_pieces) (defBody s_need_pieces) (defScope s_need_pieces) .none kV44 dc44 pm44 an44 cd44 ct44), sl44⟩)
    (c44 : PySem.W.codeIn K cd44 "need_pieces" = true)
    (k44 : PySem.W.keepIn K (.ref f44) = true)
    (a45 : PySem.W.nsIn K mainGlobals "value_at" = some (some (.ref f45)))
    (l45 : K.lookup f45 = some ⟨oc45, od45, .func (PySem.W.fnOf "value_at" "value_at" (defArgs s_value_at) (defBody s_value_at) (defScope s_value_at) .none kV45 dc45 pm45 an45 cd45 ct45), sl45⟩)
    (c45 : PySem.W.codeIn K cd45 "value_at" = true)
    (k45 : PySem.W.keepIn K (.ref f45) = true)
    (a46 : PySem.W.nsIn K mainGlobals "point_at" = some (some (.ref f46)))
    (l46 : K.lookup f46 = some ⟨oc46, od46, .func (PySem.W.fnOf "point_at" "point_at" (defArgs s_point_at) (defBody s_point_at) (defScope s_point_at) .none kV46 dc46 pm46 an46 cd46 ct46), sl46⟩)
    (c46 : PySem.W.codeIn K cd46 "point_at" = true)
    (k46 : PySem.W.keepIn K (.ref f46) = true)
    (a47 : PySem.W.nsIn K mainGlobals "_law_piece_right" = some (some (.ref f47)))
    (l47 : K.lookup f47 = some ⟨oc47, od47, .func (PySem.W.fnOf "_law_piece_right" "_law_piece_right" (defArgs s__law_piece_right) (defBody s__law_piece_right) (defScope s__law_piece_right) .none kV47 dc47 pm47 an47 cd47 ct47), sl47⟩)
    (c47 : PySem.W.codeIn K cd47 "_law_piece_right" = true)
    (k47 : PySem.W.keepIn K (.ref f47) = true)
    (a48 : PySem.W.nsIn K mainGlobals "law" = some (some (.ref f48)))
    (l48 : K.lookup f48 = some ⟨oc48, od48, .func (PySem.W.fnOf "law" "law" (defArgs s_law) (defBody s_law) (defScope s_law) .none kV48 dc48 pm48 an48 cd48 ct48), sl48⟩)
    (c48 : PySem.W.codeIn K cd48 "law" = true)
    (k48 : PySem.W.keepIn K (.ref f48) = true)
    (a49 : PySem.W.nsIn K mainGlobals "first_such" = some (some (.ref f49)))
    (l49 : K.lookup f49 = some ⟨oc49, od49, .func (PySem.W.fnOf "first_such" "first_such" (defArgs s_first_such) (defBody s_first_such) (defScope s_first_such) .none kV49 dc49 pm49 an49 cd49 ct49), sl49⟩)
    (c49 : PySem.W.codeIn K cd49 "first_such" = true)
    (k49 : PySem.W.keepIn K (.ref f49) = true)
    (aR0 : PySem.W.nsIn K mainGlobals "first_beyond" = some (some (.ref fR0)))
    (lR0 : K.lookup fR0 = some ⟨ocR0, odR0, .func (PySem.W.fnOf "first_beyond" "first_beyond" (defArgs s_first_beyond) (defBody s_first_beyond) (defScope s_first_beyond) .none kVR0 dcR0 pmR0 anR0 (.ref cR0) ctR0), slR0⟩)
    (cR0R : PySem.W.codeIn K (.ref cR0) "first_beyond" = true)
    (kR0 : PySem.W.keepIn K (.ref fR0) = true)
    (lcR0 : K.lookup cR0 = some ⟨eR0, ddR0, .fields vsR0, slcR0⟩)
    (v11R0 : vsR0[11]? = some (.ref PR0))
    (hPR0 : K.lookup PR0 = none)
    (hcR0 : PySem.W.codeHdIn K cR0 PR0 = true)
    (nPiece : PySem.W.nsIn K mainGlobals "Piece" = some (some (.ref C_Piece)))
    (pgPiece : PySem.W.plainGet K C_Piece Str.empty = true)
    (hdPiece : PySem.W.hasDictIn K C_Piece = true)
    (poPiece : PySem.W.plainOver K C_Piece = true)
    (saPiece : PySem.W.findIn K (.ref C_Piece) "__setattr__" = some (some (.builtin "object.__setattr__")))
    (mkPiece : PySem.W.makesIn K C_Piece = true)
    (kcPiece : PySem.W.keepIn K (.ref C_Piece) = true)
    (naPiece0 : PySem.W.findIn K (.ref C_Piece) "word" = some none)
    (naPiece1 : PySem.W.findIn K (.ref C_Piece) "parts" = some none)
    (naPiece2 : PySem.W.findIn K (.ref C_Piece) "moment" = some none)
    (naPiece3 : PySem.W.findIn K (.ref C_Piece) "step" = some none)
    (naPiece4 : PySem.W.findIn K (.ref C_Piece) "count" = some none)
    (naPiece5 : PySem.W.findIn K (.ref C_Piece) "kind" = some none)
    (naPiece6 : PySem.W.findIn K (.ref C_Piece) "numbers" = some none)
    (haPiece : PySem.W.findIn K (.ref C_Piece) "__class__" = some (some (.builtin "object.__class__")))
    (omPiece : PySem.W.mroIn K C_Piece (.type "object") = some true)
    (aPiece : PySem.W.findIn K (.ref C_Piece) "__init__" = some (some (.ref fPiece)))
    (iPiece : PySem.W.isFn K (.ref fPiece) = true)
    (lPiece : K.lookup fPiece = some ⟨ocPiece, odPiece, .func (PySem.W.fnX "__init__" "Piece.__init__" (defArgs s_Piece_init) (defBody s_Piece_init) (defScope s_Piece_init) [("__class__", ccPiece)] .none kVPiece dcPiece pmPiece anPiece (.ref cdaPiece) ctPiece), slPiece⟩)
    (cEPiece : PySem.W.codeIn K (.ref cdaPiece) "Piece.__init__" = true)
    (dclPiece : PySem.W.isClsIn K C_Piece = true)
    (cdlPiece : K.lookup cdaPiece = some ⟨cclPiece, cddPiece, .fields vsPiece, ccsPiece⟩)
    (vs2Piece : vsPiece[2]? = some (.str filePiece tfPiece))
    (filPiece : ((P.main.file : Str) == filePiece) = true)
    (cclxPiece : K.lookup ccPiece = some ⟨cl_Piece, cldPiece, .cell (some (.ref C_Piece)), cslPiece⟩)
    (supPiece : PySem.W.mroIn K C_Piece (.ref C_Piece) = some true)
    (satPiece : PySem.W.ks_superIn K C_Piece C_Piece "__init__" = some (some (.ref fPPiece)))
    (tyPPiece : PySem.W.typeIn K (.ref fPPiece) = some (.type "function"))
    (fiPPiece : PySem.W.fnIn K fPPiece = true)
    (lPPiece : K.lookup fPPiece = some ⟨ocPPiece, odPPiece, .func (PySem.W.fnOf "__init__" "Paper.__init__" (defArgs s_Paper_init) (defBody s_Paper_init) (defScope s_Paper_init) .none kVPPiece dcPPiece pmPPiece anPPiece cdPPiece ctPPiece), slPPiece⟩)
    (cPPiece : PySem.W.codeIn K cdPPiece "Paper.__init__" = true)
    (hn : PySem.W.specialIn K (.builtin "object.__class__") "__get__" = some (some (.builtin "getset_descriptor.__get__")))
    (ht : PySem.W.takesIn K (.builtin "object.__class__") = some true)
    (opq : PySem.W.nsIn K cStatics "thirdparty.any" = some none)
    (topS : (P.main.scope.names.lookup ("super" : Str)).isSome = false)
    (nsup : PySem.W.nsIn K mainGlobals "super" = some none)
    (b_abs : PySem.W.nsIn K mainGlobals "abs" = some none)
    (b_all : PySem.W.nsIn K mainGlobals "all" = some none)
    (b_bool : PySem.W.nsIn K mainGlobals "bool" = some none)
    (b_int : PySem.W.nsIn K mainGlobals "int" = some none)
    (b_isinstance : PySem.W.nsIn K mainGlobals "isinstance" = some none)
    (b_len : PySem.W.nsIn K mainGlobals "len" = some none)
    (b_list : PySem.W.nsIn K mainGlobals "list" = some none)
    (b_max : PySem.W.nsIn K mainGlobals "max" = some none)
    (b_min : PySem.W.nsIn K mainGlobals "min" = some none)
    (b_range : PySem.W.nsIn K mainGlobals "range" = some none)
    (b_str : PySem.W.nsIn K mainGlobals "str" = some none)
    (b_sum : PySem.W.nsIn K mainGlobals "sum" = some none)
    (b_tuple : PySem.W.nsIn K mainGlobals "tuple" = some none)
    (b_zip : PySem.W.nsIn K mainGlobals "zip" = some none)
    (g_KINDS : PySem.W.nsIn K mainGlobals "KINDS" = some (some (.ref a_KINDS)))
    (lt_KINDS : K.lookup a_KINDS = some ⟨.type "tuple", d_KINDS, .seq #[.str "order" ta_KINDS0, .str "period" ta_KINDS1] n_KINDS, sl_KINDS⟩)
    (g_LANES : PySem.W.nsIn K mainGlobals "LANES" = some (some (.ref a_LANES)))
    (lt_LANES : K.lookup a_LANES = some ⟨.type "tuple", d_LANES, .seq #[.str "moments" ta_LANES0, .str "values" ta_LANES1] n_LANES, sl_LANES⟩)
    (g_MOST_COUNT : PySem.W.nsIn K mainGlobals "MOST_COUNT" = some (some (.int 2199023255552 tk_MOST_COUNT)))
    (g_MOST_MOMENT : PySem.W.nsIn K mainGlobals "MOST_MOMENT" = some (some (.int 1099511627775 tk_MOST_MOMENT)))
    (g_MOST_NUMBERS : PySem.W.nsIn K mainGlobals "MOST_NUMBERS" = some (some (.int 100000 tk_MOST_NUMBERS)))
    (g_MOST_ORDER : PySem.W.nsIn K mainGlobals "MOST_ORDER" = some (some (.int 3 tk_MOST_ORDER)))
    (g_MOST_PERIOD : PySem.W.nsIn K mainGlobals "MOST_PERIOD" = some (some (.int 8 tk_MOST_PERIOD)))
    (g_MOST_RUN : PySem.W.nsIn K mainGlobals "MOST_RUN" = some (some (.int 36 tk_MOST_RUN)))
    (g_MOST_VALUE : PySem.W.nsIn K mainGlobals "MOST_VALUE" = some (some (.int 1099511627776 tk_MOST_VALUE)))
    (hr9 : Room 11 callerA) : ∃ (Ps : List Addr) (sp : Sp), (∀ T ∈ Ps, h.get? T = some emptyTab ∧ K.lookup T = none ∧ isCodeTable h T) ∧ (∀ T ∈ Ps, h.BuiltinsAt mg T) ∧ AtCaller P w K mg Ps fa sp ∧
      ∀ (H : Hp) (a : Addr) (ns : List Int), ns.length ≤ 63 → (∀ T ∈ Ps, H T = some (.tbl #[])) → SqL K H a (ns.map V.int) → sp [.ref a] H (fun v _ => v = .bl true) fun _ _ _ => False := by
  have tabF0 := hown0 fR0 cR0 PR0 _ _ _ _ _ _ (PySem.W.mg_of X G aR0) lR0 rfl rfl lcR0 v11R0
  letI tb1 : DW.Tb := ⟨[PR0], fun _ _ _ => "first_beyond.<locals>.is_out"⟩
  have tabA : ∀ T ∈ [PR0], h.get? T = some emptyTab ∧ K.lookup T = none ∧ isCodeTable h T := fun T hT => by
    simp only [List.mem_cons, List.not_mem_nil, or_false] at hT
    rcases hT with rfl
    · exact ⟨tabF0.1, hPR0, tabF0.2.1⟩
  have tabB : ∀ T ∈ [PR0], h.BuiltinsAt mg T := fun T hT => by
    simp only [List.mem_cons, List.not_mem_nil, or_false] at hT
    rcases hT with rfl
    · exact tabF0.2.2
  have tabP : ∀ T, DW.Tb.tab T = true → T ∈ [PR0] := fun T hT => of_decide_eq_true hT
  have tabR0 : DW.Tb.tab PR0 = true := decide_eq_true (show PR0 ∈ [PR0] by simp)
  refine ⟨[PR0], lawSp K, tabA, tabB, ?_, fun H a ns hl hT hS => ⟨a, ns, rfl, hS, hl, fun T hh => hT T (tabP T hh), fun _ => rfl⟩⟩
  cases hfa.symm.trans (PySem.W.mg_of X G a48)
  have KK : ∀ {x : Str} {a : Addr}, PySem.W.nsIn K mainGlobals x = some (some (.ref a)) → mg x = some (.ref a) := fun e => PySem.W.mg_of X G e
  have T : Txt K mg C_Piece := ⟨PySem.W.mg_none_of X G b_abs, PySem.W.mg_none_of X G b_all, PySem.W.mg_none_of X G b_bool, PySem.W.mg_none_of X G b_int, PySem.W.mg_none_of X G b_isinstance, PySem.W.mg_none_of X G b_len, PySem.W.mg_none_of X G b_list, PySem.W.mg_none_of X G b_max, PySem.W.mg_none_of X G b_min, PySem.W.mg_none_of X G b_range, PySem.W.mg_none_of X G b_str, PySem.W.mg_none_of X G b_sum, PySem.W.mg_none_of X G b_tuple, PySem.W.mg_none_of X G b_zip, ⟨a_KINDS, [.str "order", .str "period"], PySem.W.mg_of X G g_KINDS, .inr ⟨_, _, _, lt_KINDS, rfl, rfl, (by show 2 ≤ sizeLine; decide), .cons ⟨_, rfl⟩ (.cons ⟨_, rfl⟩ (.nil))⟩, .cons (.str _) (.cons (.str _) (.nil))⟩, ⟨a_LANES, [.str "moments", .str "values"], PySem.W.mg_of X G g_LANES, .inr ⟨_, _, _, lt_LANES, rfl, rfl, (by show 2 ≤ sizeLine; decide), .cons ⟨_, rfl⟩ (.cons ⟨_, rfl⟩ (.nil))⟩, .cons (.str _) (.cons (.str _) (.nil))⟩, ⟨_, PySem.W.mg_of X G g_MOST_COUNT⟩, ⟨_, PySem.W.mg_of X G g_MOST_MOMENT⟩, ⟨_, PySem.W.mg_of X G g_MOST_NUMBERS⟩, ⟨_, PySem.W.mg_of X G g_MOST_ORDER⟩, ⟨_, PySem.W.mg_of X G g_MOST_PERIOD⟩, ⟨_, PySem.W.mg_of X G g_MOST_RUN⟩, ⟨_, PySem.W.mg_of X G g_MOST_VALUE⟩, PySem.W.mg_of X G nPiece⟩
  have clPiece : Cls K C_Piece := ⟨pgPiece, hdPiece, poPiece, saPiece⟩
  have T_Piece : ClT K C_Piece XN := ⟨clPiece, fun f hf => by
    simp only [XN, List.mem_cons, List.not_mem_nil, or_false] at hf
    rcases hf with rfl | rfl | rfl | rfl | rfl | rfl | rfl
    · exact naPiece0
    · exact naPiece1
    · exact naPiece2
    · exact naPiece3
    · exact naPiece4
    · exact naPiece5
    · exact naPiece6⟩
  have O_Piece : ObT K C_Piece := ⟨clPiece, haPiece, hn, ht, omPiece⟩
  have TP_Piece : ClT K C_Piece PN := ⟨clPiece, fun f hf => T_Piece.na f (by
    simp only [PN, List.mem_cons, List.not_mem_nil, or_false] at hf
    rcases hf with rfl | rfl
    · decide +kernel
    · decide +kernel)⟩
  have F0 := fun_mk (st := s__law_pen) l0 c0 k0
  have B0 := F0.binds (ps := ["script"]) fun _ _ _ _ _ _ us hl => match us, hl with | [_], _ => rfl
  have F1 := fun_mk (st := s__law_draw) l1 c1 k1
  have B1 := F1.binds (ps := ["pen", "many"]) fun _ _ _ _ _ _ us hl => match us, hl with | [_, _], _ => rfl
  have F2 := fun_mk (st := s__law_way) l2 c2 k2
  have B2 := F2.binds (ps := ["pen", "lane"]) fun _ _ _ _ _ _ us hl => match us, hl with | [_, _], _ => rfl
  have F3 := fun_mk (st := s_is_listed) l3 c3 k3
  have B3 := F3.binds (ps := ["value"]) fun _ _ _ _ _ _ us hl => match us, hl with | [_], _ => rfl
  have F4 := fun_mk (st := s_is_integer) l4 c4 k4
  have B4 := F4.binds (ps := ["value"]) fun _ _ _ _ _ _ us hl => match us, hl with | [_], _ => rfl
  have F5 := fun_mk (st := s_is_within) l5 c5 k5
  have B5 := F5.binds (ps := ["value", "least", "most"]) fun _ _ _ _ _ _ us hl => match us, hl with | [_, _, _], _ => rfl
  have F6 := fun_mk (st := s_is_way) l6 c6 k6
  have B6 := F6.binds (ps := ["lane", "value"]) fun _ _ _ _ _ _ us hl => match us, hl with | [_, _], _ => rfl
  have F7 := fun_mk (st := s_need_way) l7 c7 k7
  have B7 := F7.binds (ps := ["part", "lane", "value"]) fun _ _ _ _ _ _ us hl => match us, hl with | [_, _, _], _ => rfl
  have F8 := fun_mk (st := s_is_token) l8 c8 k8
  have B8 := F8.binds (ps := ["value"]) fun _ _ _ _ _ _ us hl => match us, hl with | [_], _ => rfl
  have F9 := fun_mk (st := s_need_tokens) l9 c9 k9
  have B9 := F9.binds (ps := ["part", "value"]) fun _ _ _ _ _ _ us hl => match us, hl with | [_, _], _ => rfl
  have F10 := fun_mk (st := s_many_by) l10 c10 k10
  have B10 := F10.binds (ps := ["token"]) fun _ _ _ _ _ _ us hl => match us, hl with | [_], _ => rfl
  have F11 := fun_mk (st := s_how_many) l11 c11 k11
  have B11 := F11.binds (ps := ["tokens"]) fun _ _ _ _ _ _ us hl => match us, hl with | [_], _ => rfl
  have F12 := fun_mk (st := s_reach_of) l12 c12 k12
  have B12 := F12.binds (ps := ["way"]) fun _ _ _ _ _ _ us hl => match us, hl with | [_], _ => rfl
  have F13 := fun_mk (st := s_begin_of) l13 c13 k13
  have B13 := F13.binds (ps := ["way"]) fun _ _ _ _ _ _ us hl => match us, hl with | [_], _ => rfl
  have F14 := fun_mk (st := s_next_by) l14 c14 k14
  have B14 := F14.binds (ps := ["way", "last"]) fun _ _ _ _ _ _ us hl => match us, hl with | [_, _], _ => rfl
  have F15 := fun_mk (st := s_difference_by) l15 c15 k15
  have B15 := F15.binds (ps := ["token"]) fun _ _ _ _ _ _ us hl => match us, hl with | [_], _ => rfl
  have F16 := fun_mk (st := s_moved) l16 c16 k16
  have B16 := F16.binds (ps := ["last", "number"]) fun _ _ _ _ _ _ us hl => match us, hl with | [_, _], _ => rfl
  have F17 := fun_mk (st := s_numbers_of) l17 c17 k17
  have B17 := F17.binds (ps := ["way", "tokens"]) fun _ _ _ _ _ _ us hl => match us, hl with | [_, _], _ => rfl
  have F18 := fun_mk (st := s__law_next) l18 c18 k18
  have B18 := F18.binds (ps := ["way", "numbers"]) fun _ _ _ _ _ _ us hl => match us, hl with | [_, _], _ => rfl
  have F19 := fun_mk (st := s__law_numbers) l19 c19 k19
  have B19 := F19.binds (ps := ["way", "tokens"]) fun _ _ _ _ _ _ us hl => match us, hl with | [_, _], _ => rfl
  have F20 := fun_mk (st := s__law_differences) l20 c20 k20
  have B20 := F20.binds (ps := ["numbers", "times"]) fun _ _ _ _ _ _ us hl => match us, hl with | [_, _], _ => rfl
  have F21 := fun_mk (st := s_foretold) l21 c21 k21
  have B21 := F21.binds (ps := ["way", "numbers"]) fun _ _ _ _ _ _ us hl => match us, hl with | [_, _], _ => rfl
  have F22 := fun_mk (st := s__law_right) l22 c22 k22
  have B22 := F22.binds (ps := ["pen"]) fun _ _ _ _ _ _ us hl => match us, hl with | [_], _ => rfl
  have F23 := fun_mk (st := s_padded) l23 c23 k23
  have B23 := F23.binds (ps := ["numbers"]) fun _ _ _ _ _ _ us hl => match us, hl with | [_], _ => rfl
  have F24 := fun_mk (st := s_trimmed) l24 c24 k24
  have B24 := F24.binds (ps := ["numbers", "count"]) fun _ _ _ _ _ _ us hl => match us, hl with | [_, _], _ => rfl
  have F25 := fun_mk (st := s_pairs_of) l25 c25 k25
  have B25 := F25.binds (ps := ["many"]) fun _ _ _ _ _ _ us hl => match us, hl with | [_], _ => rfl
  have F26 := fun_mk (st := s_number_at) l26 c26 k26
  have B26 := F26.binds (ps := ["kind", "numbers", "index"]) fun _ _ _ _ _ _ us hl => match us, hl with | [_, _, _], _ => rfl
  have F27 := fun_mk (st := s_part_of) l27 c27 k27
  have B27 := F27.binds (ps := ["kind", "numbers", "begin", "count"]) fun _ _ _ _ _ _ us hl => match us, hl with | [_, _, _, _], _ => rfl
  have F28 := fun_mk (st := s_cut_row) l28 c28 k28
  have B28 := F28.binds (ps := ["row", "begin", "count"]) fun _ _ _ _ _ _ us hl => match us, hl with | [_, _, _], _ => rfl
  have F29 := fun_mk (st := s_moments_of) l29 c29 k29
  have B29 := F29.binds (ps := ["kind", "numbers", "count"]) fun _ _ _ _ _ _ us hl => match us, hl with | [_, _, _], _ => rfl
  have F30 := fun_mk (st := s_fixed) l30 c30 k30
  have B30 := F30.binds (ps := ["value"]) fun _ _ _ _ _ _ us hl => match us, hl with | [_], _ => rfl
  have F31 := fun_mk (st := s_zipped) l31 c31 k31
  have B31 := F31.binds (ps := ["moments", "values"]) fun _ _ _ _ _ _ us hl => match us, hl with | [_, _], _ => rfl
  have F32 := fun_mk (st := s_run_by) l32 c32 k32
  have B32 := F32.binds (ps := ["way", "last", "many"]) fun _ _ _ _ _ _ us hl => match us, hl with | [_, _, _], _ => rfl
  have F33 := fun_mk (st := s_last_of) l33 c33 k33
  have B33 := F33.binds (ps := ["last", "kind", "numbers", "many"]) fun _ _ _ _ _ _ us hl => match us, hl with | [_, _, _, _], _ => rfl
  have F34 := fun_mk (st := s_stretches_of) l34 c34 k34
  have B34 := F34.binds (ps := ["way", "tokens"]) fun _ _ _ _ _ _ us hl => match us, hl with | [_, _], _ => rfl
  have F35 := fun_mk (st := s_pieces_of) l35 c35 k35
  have B35 := F35.binds (ps := ["moment_way", "moment_tokens", "value_way", "value_tokens"]) fun _ _ _ _ _ _ us hl => match us, hl with | [_, _, _, _], _ => rfl
  have F36 := fun_mk (st := s_is_piece) l36 c36 k36
  have B36 := F36.binds (ps := ["value"]) fun _ _ _ _ _ _ us hl => match us, hl with | [_], _ => rfl
  have F37 := fun_mk (st := s_turn_of) l37 c37 k37
  have B37 := F37.binds (ps := ["numbers", "count"]) fun _ _ _ _ _ _ us hl => match us, hl with | [_, _], _ => rfl
  have F38 := fun_mk (st := s_first_bad_moment) l38 c38 k38
  have B38 := F38.binds (ps := ["piece"]) fun _ _ _ _ _ _ us hl => match us, hl with | [_], _ => rfl
  have F39 := fun_mk (st := s_wrong_in) l39 c39 k39
  have B39 := F39.binds (ps := ["piece", "ahead"]) fun _ _ _ _ _ _ us hl => match us, hl with | [_, _], _ => rfl
  have F40 := fun_mk (st := s_moment_at) l40 c40 k40
  have B40 := F40.binds (ps := ["piece", "index"]) fun _ _ _ _ _ _ us hl => match us, hl with | [_, _], _ => rfl
  have F41 := fun_mk (st := s_last_moment) l41 c41 k41
  have B41 := F41.binds (ps := ["piece"]) fun _ _ _ _ _ _ us hl => match us, hl with | [_], _ => rfl
  have F42 := fun_mk (st := s_first_wrong) l42 c42 k42
  have B42 := F42.binds (ps := ["pieces"]) fun _ _ _ _ _ _ us hl => match us, hl with | [_], _ => rfl
  have F43 := fun_mk (st := s_are_pieces) l43 c43 k43
  have B43 := F43.binds (ps := ["value"]) fun _ _ _ _ _ _ us hl => match us, hl with | [_], _ => rfl
  have F44 := fun_mk (st := s_need_pieces) l44 c44 k44
  have B44 := F44.binds (ps := ["part", "value"]) fun _ _ _ _ _ _ us hl => match us, hl with | [_, _], _ => rfl
  have F45 := fun_mk (st := s_value_at) l45 c45 k45
  have B45 := F45.binds (ps := ["piece", "index"]) fun _ _ _ _ _ _ us hl => match us, hl with | [_, _], _ => rfl
  have F46 := fun_mk (st := s_point_at) l46 c46 k46
  have B46 := F46.binds (ps := ["pieces", "index"]) fun _ _ _ _ _ _ us hl => match us, hl with | [_, _], _ => rfl
  have F47 := fun_mk (st := s__law_piece_right) l47 c47 k47
  have B47 := F47.binds (ps := ["pen"]) fun _ _ _ _ _ _ us hl => match us, hl with | [_], _ => rfl
  have F48 := fun_mk (st := s_law) l48 c48 k48
  have F49 := fun_mk (st := s_first_such) l49 c49 k49
  have B49 := F49.binds (ps := ["begin", "behind", "is_such"]) fun _ _ _ _ _ _ us hl => match us, hl with | [_, _, _], _ => rfl
  refine at_def F48 sc_law hr9 (fun us hl s => match us, hl with | [_], _ => .of_eq rfl) (fun vs H Q E h => by obtain ⟨a, ns, rfl, _⟩ := h; rfl) fun base cdv s H vs Q E KB tb hr hgd hsp => ?_
  obtain ⟨a, ns, rfl, hS, hl, hTT, hQ⟩ := hsp
  have G__law_pen : Go P w K mg base 1 "_law_pen" (penSp K) [] := ⟨f0, _, ["script"], [], F0.ok sc__law_pen (fun vs H Q E h => by obtain ⟨_, _, rfl, _⟩ := h; rfl) (fun cdv A outer s H vs Q E hr h => by
    obtain ⟨a, ns, rfl, hS, hl, hk⟩ := h
    exact ⟨_, der__law_pen T hr, pen_list rfl hS hl rfl hk⟩), KK a0, F0.kp, B0, .nil⟩
  have G__law_draw : Go P w K mg base 1 "_law_draw" (toSp K drawSp) [] := fn_data F1 sc__law_draw (fun w es n k h => by first | (obtain ⟨rfl, _⟩ := h; rfl; done) | (obtain ⟨_, rfl, _⟩ := h; rfl; done) | (obtain ⟨_, _, rfl, _⟩ := h; rfl; done) | (obtain ⟨_, _, _, rfl, _⟩ := h; rfl; done) | (obtain ⟨_, _, _, _, rfl, _⟩ := h; rfl; done) | (obtain ⟨_, _, _, _, _, rfl, _⟩ := h; rfl; done) | (obtain ⟨_, _, _, _, _, _, rfl, _⟩ := h; rfl; done) | (obtain ⟨_, _, _, _, _, _, _, rfl, _⟩ := h; rfl; done) | (obtain ⟨_, _, _, _, _, _, _, _, rfl, _⟩ := h; rfl; done) | (obtain ⟨_, _, _, _, _, _, _, _, _, rfl, _⟩ := h; rfl; done) | (obtain ⟨_, _, _, _, _, _, _, _, _, _, rfl, _⟩ := h; rfl; done) | (obtain ⟨_, _, _, _, _, _, _, _, _, _, _, rfl, _⟩ := h; rfl; done) | (obtain ⟨_, _, _, _, _, _, _, _, _, _, _, _, rfl, _⟩ := h; rfl; done) | (obtain ⟨_, _, _, _, _, _, _, _, _, _, _, _, _, rfl, _⟩ := h; rfl; done) | (obtain ⟨_, _, _, _, _, _, _, _, _, _, _, _, _, _, rfl, _⟩ := h; rfl; done) | (rcases h with ⟨_, rfl, _⟩ | ⟨_, rfl, _⟩ <;> rfl; done) | (rcases h with ⟨_, rfl, _⟩ | ⟨_, rfl, _⟩ | ⟨_, rfl, _⟩ <;> rfl; done) | (obtain ⟨_, h⟩ := h; rcases h with ⟨_, rfl, _⟩ | ⟨_, rfl, _⟩ | ⟨_, rfl, _⟩ <;> rfl; done) | (obtain ⟨_, rfl, rfl, _⟩ := h; rfl; done) | (obtain ⟨_, _, rfl, rfl, _⟩ := h; rfl; done) | (obtain ⟨_, _, _, rfl, rfl, _⟩ := h; rfl; done) | (obtain ⟨_, _, _, _, rfl, rfl, _⟩ := h; rfl; done) | (obtain ⟨_, _, _, _, _, rfl, rfl, _⟩ := h; rfl; done) | (obtain ⟨_, _, _, _, _, _, rfl, rfl, _⟩ := h; rfl; done) | (obtain ⟨_, _, _, _, _, _, _, rfl, rfl, _⟩ := h; rfl; done) | (obtain ⟨_, _, _, _, _, _, _, _, rfl, rfl, _⟩ := h; rfl; done) | (obtain ⟨_, _, _, _, _, _, _, _, _, rfl, rfl, _⟩ := h; rfl; done) | (obtain ⟨_, _, _, _, _, _, _, _, _, _, rfl, rfl, _⟩ := h; rfl; done) | (obtain ⟨_, _, _, _, _, _, _, _, _, _, _, rfl, rfl, _⟩ := h; rfl; done)) B1 (KK a1) (fun cdv A outer s H E hr => der__law_draw T  hr) (fun w es n k h => w__law_draw  h)
  have G__law_way : Go P w K mg base 2 "_law_way" (toSp K lwaySp) [] := fn_data F2 sc__law_way (fun w es n k h => by first | (obtain ⟨rfl, _⟩ := h; rfl; done) | (obtain ⟨_, rfl, _⟩ := h; rfl; done) | (obtain ⟨_, _, rfl, _⟩ := h; rfl; done) | (obtain ⟨_, _, _, rfl, _⟩ := h; rfl; done) | (obtain ⟨_, _, _, _, rfl, _⟩ := h; rfl; done) | (obtain ⟨_, _, _, _, _, rfl, _⟩ := h; rfl; done) | (obtain ⟨_, _, _, _, _, _, rfl, _⟩ := h; rfl; done) | (obtain ⟨_, _, _, _, _, _, _, rfl, _⟩ := h; rfl; done) | (obtain ⟨_, _, _, _, _, _, _, _, rfl, _⟩ := h; rfl; done) | (obtain ⟨_, _, _, _, _, _, _, _, _, rfl, _⟩ := h; rfl; done) | (obtain ⟨_, _, _, _, _, _, _, _, _, _, rfl, _⟩ := h; rfl; done) | (obtain ⟨_, _, _, _, _, _, _, _, _, _, _, rfl, _⟩ := h; rfl; done) | (obtain ⟨_, _, _, _, _, _, _, _, _, _, _, _, rfl, _⟩ := h; rfl; done) | (obtain ⟨_, _, _, _, _, _, _, _, _, _, _, _, _, rfl, _⟩ := h; rfl; done) | (obtain ⟨_, _, _, _, _, _, _, _, _, _, _, _, _, _, rfl, _⟩ := h; rfl; done) | (rcases h with ⟨_, rfl, _⟩ | ⟨_, rfl, _⟩ <;> rfl; done) | (rcases h with ⟨_, rfl, _⟩ | ⟨_, rfl, _⟩ | ⟨_, rfl, _⟩ <;> rfl; done) | (obtain ⟨_, h⟩ := h; rcases h with ⟨_, rfl, _⟩ | ⟨_, rfl, _⟩ | ⟨_, rfl, _⟩ <;> rfl; done) | (obtain ⟨_, rfl, rfl, _⟩ := h; rfl; done) | (obtain ⟨_, _, rfl, rfl, _⟩ := h; rfl; done) | (obtain ⟨_, _, _, rfl, rfl, _⟩ := h; rfl; done) | (obtain ⟨_, _, _, _, rfl, rfl, _⟩ := h; rfl; done) | (obtain ⟨_, _, _, _, _, rfl, rfl, _⟩ := h; rfl; done) | (obtain ⟨_, _, _, _, _, _, rfl, rfl, _⟩ := h; rfl; done) | (obtain ⟨_, _, _, _, _, _, _, rfl, rfl, _⟩ := h; rfl; done) | (obtain ⟨_, _, _, _, _, _, _, _, rfl, rfl, _⟩ := h; rfl; done) | (obtain ⟨_, _, _, _, _, _, _, _, _, rfl, rfl, _⟩ := h; rfl; done) | (obtain ⟨_, _, _, _, _, _, _, _, _, _, rfl, rfl, _⟩ := h; rfl; done) | (obtain ⟨_, _, _, _, _, _, _, _, _, _, _, rfl, rfl, _⟩ := h; rfl; done)) B2 (KK a2) (fun cdv A outer s H E hr => der__law_way T G__law_draw hr) (fun w es n k h => w__law_way  h)
  have G_is_listed : Go P w K mg base 1 "is_listed" (toSp K listedSp) [] := fn_data F3 sc_is_listed (fun w es n k h => by first | (obtain ⟨rfl, _⟩ := h; rfl; done) | (obtain ⟨_, rfl, _⟩ := h; rfl; done) | (obtain ⟨_, _, rfl, _⟩ := h; rfl; done) | (obtain ⟨_, _, _, rfl, _⟩ := h; rfl; done) | (obtain ⟨_, _, _, _, rfl, _⟩ := h; rfl; done) | (obtain ⟨_, _, _, _, _, rfl, _⟩ := h; rfl; done) | (obtain ⟨_, _, _, _, _, _, rfl, _⟩ := h; rfl; done) | (obtain ⟨_, _, _, _, _, _, _, rfl, _⟩ := h; rfl; done) | (obtain ⟨_, _, _, _, _, _, _, _, rfl, _⟩ := h; rfl; done) | (obtain ⟨_, _, _, _, _, _, _, _, _, rfl, _⟩ := h; rfl; done) | (obtain ⟨_, _, _, _, _, _, _, _, _, _, rfl, _⟩ := h; rfl; done) | (obtain ⟨_, _, _, _, _, _, _, _, _, _, _, rfl, _⟩ := h; rfl; done) | (obtain ⟨_, _, _, _, _, _, _, _, _, _, _, _, rfl, _⟩ := h; rfl; done) | (obtain ⟨_, _, _, _, _, _, _, _, _, _, _, _, _, rfl, _⟩ := h; rfl; done) | (obtain ⟨_, _, _, _, _, _, _, _, _, _, _, _, _, _, rfl, _⟩ := h; rfl; done) | (rcases h with ⟨_, rfl, _⟩ | ⟨_, rfl, _⟩ <;> rfl; done) | (rcases h with ⟨_, rfl, _⟩ | ⟨_, rfl, _⟩ | ⟨_, rfl, _⟩ <;> rfl; done) | (obtain ⟨_, h⟩ := h; rcases h with ⟨_, rfl, _⟩ | ⟨_, rfl, _⟩ | ⟨_, rfl, _⟩ <;> rfl; done) | (obtain ⟨_, rfl, rfl, _⟩ := h; rfl; done) | (obtain ⟨_, _, rfl, rfl, _⟩ := h; rfl; done) | (obtain ⟨_, _, _, rfl, rfl, _⟩ := h; rfl; done) | (obtain ⟨_, _, _, _, rfl, rfl, _⟩ := h; rfl; done) | (obtain ⟨_, _, _, _, _, rfl, rfl, _⟩ := h; rfl; done) | (obtain ⟨_, _, _, _, _, _, rfl, rfl, _⟩ := h; rfl; done) | (obtain ⟨_, _, _, _, _, _, _, rfl, rfl, _⟩ := h; rfl; done) | (obtain ⟨_, _, _, _, _, _, _, _, rfl, rfl, _⟩ := h; rfl; done) | (obtain ⟨_, _, _, _, _, _, _, _, _, rfl, rfl, _⟩ := h; rfl; done) | (obtain ⟨_, _, _, _, _, _, _, _, _, _, rfl, rfl, _⟩ := h; rfl; done) | (obtain ⟨_, _, _, _, _, _, _, _, _, _, _, rfl, rfl, _⟩ := h; rfl; done)) B3 (KK a3) (fun cdv A outer s H E hr => der_is_listed T  hr) (fun w es n k h => w_is_listed  h)
  have G_is_integer : Go P w K mg base 1 "is_integer" (toSp K integerSp) [] := fn_data F4 sc_is_integer (fun w es n k h => by first | (obtain ⟨rfl, _⟩ := h; rfl; done) | (obtain ⟨_, rfl, _⟩ := h; rfl; done) | (obtain ⟨_, _, rfl, _⟩ := h; rfl; done) | (obtain ⟨_, _, _, rfl, _⟩ := h; rfl; done) | (obtain ⟨_, _, _, _, rfl, _⟩ := h; rfl; done) | (obtain ⟨_, _, _, _, _, rfl, _⟩ := h; rfl; done) | (obtain ⟨_, _, _, _, _, _, rfl, _⟩ := h; rfl; done) | (obtain ⟨_, _, _, _, _, _, _, rfl, _⟩ := h; rfl; done) | (obtain ⟨_, _, _, _, _, _, _, _, rfl, _⟩ := h; rfl; done) | (obtain ⟨_, _, _, _, _, _, _, _, _, rfl, _⟩ := h; rfl; done) | (obtain ⟨_, _, _, _, _, _, _, _, _, _, rfl, _⟩ := h; rfl; done) | (obtain ⟨_, _, _, _, _, _, _, _, _, _, _, rfl, _⟩ := h; rfl; done) | (obtain ⟨_, _, _, _, _, _, _, _, _, _, _, _, rfl, _⟩ := h; rfl; done) | (obtain ⟨_, _, _, _, _, _, _, _, _, _, _, _, _, rfl, _⟩ := h; rfl; done) | (obtain ⟨_, _, _, _, _, _, _, _, _, _, _, _, _, _, rfl, _⟩ := h; rfl; done) | (rcases h with ⟨_, rfl, _⟩ | ⟨_, rfl, _⟩ <;> rfl; done) | (rcases h with ⟨_, rfl, _⟩ | ⟨_, rfl, _⟩ | ⟨_, rfl, _⟩ <;> rfl; done) | (obtain ⟨_, h⟩ := h; rcases h with ⟨_, rfl, _⟩ | ⟨_, rfl, _⟩ | ⟨_, rfl, _⟩ <;> rfl; done) | (obtain ⟨_, rfl, rfl, _⟩ := h; rfl; done) | (obtain ⟨_, _, rfl, rfl, _⟩ := h; rfl; done) | (obtain ⟨_, _, _, rfl, rfl, _⟩ := h; rfl; done) | (obtain ⟨_, _, _, _, rfl, rfl, _⟩ := h; rfl; done) | (obtain ⟨_, _, _, _, _, rfl, rfl, _⟩ := h; rfl; done) | (obtain ⟨_, _, _, _, _, _, rfl, rfl, _⟩ := h; rfl; done) | (obtain ⟨_, _, _, _, _, _, _, rfl, rfl, _⟩ := h; rfl; done) | (obtain ⟨_, _, _, _, _, _, _, _, rfl, rfl, _⟩ := h; rfl; done) | (obtain ⟨_, _, _, _, _, _, _, _, _, rfl, rfl, _⟩ := h; rfl; done) | (obtain ⟨_, _, _, _, _, _, _, _, _, _, rfl, rfl, _⟩ := h; rfl; done) | (obtain ⟨_, _, _, _, _, _, _, _, _, _, _, rfl, rfl, _⟩ := h; rfl; done)) B4 (KK a4) (fun cdv A outer s H E hr => der_is_integer T  hr) (fun w es n k h => w_is_integer  h)
  have G_is_within : Go P w K mg base 2 "is_within" (toSp K withinSp) [] := fn_data F5 sc_is_within (fun w es n k h => by first | (obtain ⟨rfl, _⟩ := h; rfl; done) | (obtain ⟨_, rfl, _⟩ := h; rfl; done) | (obtain ⟨_, _, rfl, _⟩ := h; rfl; done) | (obtain ⟨_, _, _, rfl, _⟩ := h; rfl; done) | (obtain ⟨_, _, _, _, rfl, _⟩ := h; rfl; done) | (obtain ⟨_, _, _, _, _, rfl, _⟩ := h; rfl; done) | (obtain ⟨_, _, _, _, _, _, rfl, _⟩ := h; rfl; done) | (obtain ⟨_, _, _, _, _, _, _, rfl, _⟩ := h; rfl; done) | (obtain ⟨_, _, _, _, _, _, _, _, rfl, _⟩ := h; rfl; done) | (obtain ⟨_, _, _, _, _, _, _, _, _, rfl, _⟩ := h; rfl; done) | (obtain ⟨_, _, _, _, _, _, _, _, _, _, rfl, _⟩ := h; rfl; done) | (obtain ⟨_, _, _, _, _, _, _, _, _, _, _, rfl, _⟩ := h; rfl; done) | (obtain ⟨_, _, _, _, _, _, _, _, _, _, _, _, rfl, _⟩ := h; rfl; done) | (obtain ⟨_, _, _, _, _, _, _, _, _, _, _, _, _, rfl, _⟩ := h; rfl; done) | (obtain ⟨_, _, _, _, _, _, _, _, _, _, _, _, _, _, rfl, _⟩ := h; rfl; done) | (rcases h with ⟨_, rfl, _⟩ | ⟨_, rfl, _⟩ <;> rfl; done) | (rcases h with ⟨_, rfl, _⟩ | ⟨_, rfl, _⟩ | ⟨_, rfl, _⟩ <;> rfl; done) | (obtain ⟨_, h⟩ := h; rcases h with ⟨_, rfl, _⟩ | ⟨_, rfl, _⟩ | ⟨_, rfl, _⟩ <;> rfl; done) | (obtain ⟨_, rfl, rfl, _⟩ := h; rfl; done) | (obtain ⟨_, _, rfl, rfl, _⟩ := h; rfl; done) | (obtain ⟨_, _, _, rfl, rfl, _⟩ := h; rfl; done) | (obtain ⟨_, _, _, _, rfl, rfl, _⟩ := h; rfl; done) | (obtain ⟨_, _, _, _, _, rfl, rfl, _⟩ := h; rfl; done) | (obtain ⟨_, _, _, _, _, _, rfl, rfl, _⟩ := h; rfl; done) | (obtain ⟨_, _, _, _, _, _, _, rfl, rfl, _⟩ := h; rfl; done) | (obtain ⟨_, _, _, _, _, _, _, _, rfl, rfl, _⟩ := h; rfl; done) | (obtain ⟨_, _, _, _, _, _, _, _, _, rfl, rfl, _⟩ := h; rfl; done) | (obtain ⟨_, _, _, _, _, _, _, _, _, _, rfl, rfl, _⟩ := h; rfl; done) | (obtain ⟨_, _, _, _, _, _, _, _, _, _, _, rfl, rfl, _⟩ := h; rfl; done)) B5 (KK a5) (fun cdv A outer s H E hr => der_is_within T G_is_integer hr) (fun w es n k h => w_is_within  h)
  have G_is_way : Go P w K mg base 3 "is_way" (toSp K isWaySp) [] := fn_data F6 sc_is_way (fun w es n k h => by first | (obtain ⟨rfl, _⟩ := h; rfl; done) | (obtain ⟨_, rfl, _⟩ := h; rfl; done) | (obtain ⟨_, _, rfl, _⟩ := h; rfl; done) | (obtain ⟨_, _, _, rfl, _⟩ := h; rfl; done) | (obtain ⟨_, _, _, _, rfl, _⟩ := h; rfl; done) | (obtain ⟨_, _, _, _, _, rfl, _⟩ := h; rfl; done) | (obtain ⟨_, _, _, _, _, _, rfl, _⟩ := h; rfl; done) | (obtain ⟨_, _, _, _, _, _, _, rfl, _⟩ := h; rfl; done) | (obtain ⟨_, _, _, _, _, _, _, _, rfl, _⟩ := h; rfl; done) | (obtain ⟨_, _, _, _, _, _, _, _, _, rfl, _⟩ := h; rfl; done) | (obtain ⟨_, _, _, _, _, _, _, _, _, _, rfl, _⟩ := h; rfl; done) | (obtain ⟨_, _, _, _, _, _, _, _, _, _, _, rfl, _⟩ := h; rfl; done) | (obtain ⟨_, _, _, _, _, _, _, _, _, _, _, _, rfl, _⟩ := h; rfl; done) | (obtain ⟨_, _, _, _, _, _, _, _, _, _, _, _, _, rfl, _⟩ := h; rfl; done) | (obtain ⟨_, _, _, _, _, _, _, _, _, _, _, _, _, _, rfl, _⟩ := h; rfl; done) | (rcases h with ⟨_, rfl, _⟩ | ⟨_, rfl, _⟩ <;> rfl; done) | (rcases h with ⟨_, rfl, _⟩ | ⟨_, rfl, _⟩ | ⟨_, rfl, _⟩ <;> rfl; done) | (obtain ⟨_, h⟩ := h; rcases h with ⟨_, rfl, _⟩ | ⟨_, rfl, _⟩ | ⟨_, rfl, _⟩ <;> rfl; done) | (obtain ⟨_, rfl, rfl, _⟩ := h; rfl; done) | (obtain ⟨_, _, rfl, rfl, _⟩ := h; rfl; done) | (obtain ⟨_, _, _, rfl, rfl, _⟩ := h; rfl; done) | (obtain ⟨_, _, _, _, rfl, rfl, _⟩ := h; rfl; done) | (obtain ⟨_, _, _, _, _, rfl, rfl, _⟩ := h; rfl; done) | (obtain ⟨_, _, _, _, _, _, rfl, rfl, _⟩ := h; rfl; done) | (obtain ⟨_, _, _, _, _, _, _, rfl, rfl, _⟩ := h; rfl; done) | (obtain ⟨_, _, _, _, _, _, _, _, rfl, rfl, _⟩ := h; rfl; done) | (obtain ⟨_, _, _, _, _, _, _, _, _, rfl, rfl, _⟩ := h; rfl; done) | (obtain ⟨_, _, _, _, _, _, _, _, _, _, rfl, rfl, _⟩ := h; rfl; done) | (obtain ⟨_, _, _, _, _, _, _, _, _, _, _, rfl, rfl, _⟩ := h; rfl; done)) B6 (KK a6) (fun cdv A outer s H E hr => der_is_way T G_is_listed G_is_within hr) (fun w es n k h => w_is_way  h)
  have G_need_way : Go P w K mg base 4 "need_way" (toSp K needWaySp) [] := fn_data F7 sc_need_way (fun w es n k h => by first | (obtain ⟨rfl, _⟩ := h; rfl; done) | (obtain ⟨_, rfl, _⟩ := h; rfl; done) | (obtain ⟨_, _, rfl, _⟩ := h; rfl; done) | (obtain ⟨_, _, _, rfl, _⟩ := h; rfl; done) | (obtain ⟨_, _, _, _, rfl, _⟩ := h; rfl; done) | (obtain ⟨_, _, _, _, _, rfl, _⟩ := h; rfl; done) | (obtain ⟨_, _, _, _, _, _, rfl, _⟩ := h; rfl; done) | (obtain ⟨_, _, _, _, _, _, _, rfl, _⟩ := h; rfl; done) | (obtain ⟨_, _, _, _, _, _, _, _, rfl, _⟩ := h; rfl; done) | (obtain ⟨_, _, _, _, _, _, _, _, _, rfl, _⟩ := h; rfl; done) | (obtain ⟨_, _, _, _, _, _, _, _, _, _, rfl, _⟩ := h; rfl; done) | (obtain ⟨_, _, _, _, _, _, _, _, _, _, _, rfl, _⟩ := h; rfl; done) | (obtain ⟨_, _, _, _, _, _, _, _, _, _, _, _, rfl, _⟩ := h; rfl; done) | (obtain ⟨_, _, _, _, _, _, _, _, _, _, _, _, _, rfl, _⟩ := h; rfl; done) | (obtain ⟨_, _, _, _, _, _, _, _, _, _, _, _, _, _, rfl, _⟩ := h; rfl; done) | (rcases h with ⟨_, rfl, _⟩ | ⟨_, rfl, _⟩ <;> rfl; done) | (rcases h with ⟨_, rfl, _⟩ | ⟨_, rfl, _⟩ | ⟨_, rfl, _⟩ <;> rfl; done) | (obtain ⟨_, h⟩ := h; rcases h with ⟨_, rfl, _⟩ | ⟨_, rfl, _⟩ | ⟨_, rfl, _⟩ <;> rfl; done) | (obtain ⟨_, rfl, rfl, _⟩ := h; rfl; done) | (obtain ⟨_, _, rfl, rfl, _⟩ := h; rfl; done) | (obtain ⟨_, _, _, rfl, rfl, _⟩ := h; rfl; done) | (obtain ⟨_, _, _, _, rfl, rfl, _⟩ := h; rfl; done) | (obtain ⟨_, _, _, _, _, rfl, rfl, _⟩ := h; rfl; done) | (obtain ⟨_, _, _, _, _, _, rfl, rfl, _⟩ := h; rfl; done) | (obtain ⟨_, _, _, _, _, _, _, rfl, rfl, _⟩ := h; rfl; done) | (obtain ⟨_, _, _, _, _, _, _, _, rfl, rfl, _⟩ := h; rfl; done) | (obtain ⟨_, _, _, _, _, _, _, _, _, rfl, rfl, _⟩ := h; rfl; done) | (obtain ⟨_, _, _, _, _, _, _, _, _, _, rfl, rfl, _⟩ := h; rfl; done) | (obtain ⟨_, _, _, _, _, _, _, _, _, _, _, rfl, rfl, _⟩ := h; rfl; done)) B7 (KK a7) (fun cdv A outer s H E hr => der_need_way T G_is_way hr) (fun w es n k h => w_need_way  h)
  have G_is_token : Go P w K mg base 3 "is_token" (toSp K isTkSp) [] := fn_data F8 sc_is_token (fun w es n k h => by first | (obtain ⟨rfl, _⟩ := h; rfl; done) | (obtain ⟨_, rfl, _⟩ := h; rfl; done) | (obtain ⟨_, _, rfl, _⟩ := h; rfl; done) | (obtain ⟨_, _, _, rfl, _⟩ := h; rfl; done) | (obtain ⟨_, _, _, _, rfl, _⟩ := h; rfl; done) | (obtain ⟨_, _, _, _, _, rfl, _⟩ := h; rfl; done) | (obtain ⟨_, _, _, _, _, _, rfl, _⟩ := h; rfl; done) | (obtain ⟨_, _, _, _, _, _, _, rfl, _⟩ := h; rfl; done) | (obtain ⟨_, _, _, _, _, _, _, _, rfl, _⟩ := h; rfl; done) | (obtain ⟨_, _, _, _, _, _, _, _, _, rfl, _⟩ := h; rfl; done) | (obtain ⟨_, _, _, _, _, _, _, _, _, _, rfl, _⟩ := h; rfl; done) | (obtain ⟨_, _, _, _, _, _, _, _, _, _, _, rfl, _⟩ := h; rfl; done) | (obtain ⟨_, _, _, _, _, _, _, _, _, _, _, _, rfl, _⟩ := h; rfl; done) | (obtain ⟨_, _, _, _, _, _, _, _, _, _, _, _, _, rfl, _⟩ := h; rfl; done) | (obtain ⟨_, _, _, _, _, _, _, _, _, _, _, _, _, _, rfl, _⟩ := h; rfl; done) | (rcases h with ⟨_, rfl, _⟩ | ⟨_, rfl, _⟩ <;> rfl; done) | (rcases h with ⟨_, rfl, _⟩ | ⟨_, rfl, _⟩ | ⟨_, rfl, _⟩ <;> rfl; done) | (obtain ⟨_, h⟩ := h; rcases h with ⟨_, rfl, _⟩ | ⟨_, rfl, _⟩ | ⟨_, rfl, _⟩ <;> rfl; done) | (obtain ⟨_, rfl, rfl, _⟩ := h; rfl; done) | (obtain ⟨_, _, rfl, rfl, _⟩ := h; rfl; done) | (obtain ⟨_, _, _, rfl, rfl, _⟩ := h; rfl; done) | (obtain ⟨_, _, _, _, rfl, rfl, _⟩ := h; rfl; done) | (obtain ⟨_, _, _, _, _, rfl, rfl, _⟩ := h; rfl; done) | (obtain ⟨_, _, _, _, _, _, rfl, rfl, _⟩ := h; rfl; done) | (obtain ⟨_, _, _, _, _, _, _, rfl, rfl, _⟩ := h; rfl; done) | (obtain ⟨_, _, _, _, _, _, _, _, rfl, rfl, _⟩ := h; rfl; done) | (obtain ⟨_, _, _, _, _, _, _, _, _, rfl, rfl, _⟩ := h; rfl; done) | (obtain ⟨_, _, _, _, _, _, _, _, _, _, rfl, rfl, _⟩ := h; rfl; done) | (obtain ⟨_, _, _, _, _, _, _, _, _, _, _, rfl, rfl, _⟩ := h; rfl; done)) B8 (KK a8) (fun cdv A outer s H E hr => der_is_token T G_is_integer G_is_listed G_is_within hr) (fun w es n k h => w_is_token  h)
  have G_need_tokens : Go P w K mg base 4 "need_tokens" (toSp K needTkSp) [] := fn_data F9 sc_need_tokens (fun w es n k h => by first | (obtain ⟨rfl, _⟩ := h; rfl; done) | (obtain ⟨_, rfl, _⟩ := h; rfl; done) | (obtain ⟨_, _, rfl, _⟩ := h; rfl; done) | (obtain ⟨_, _, _, rfl, _⟩ := h; rfl; done) | (obtain ⟨_, _, _, _, rfl, _⟩ := h; rfl; done) | (obtain ⟨_, _, _, _, _, rfl, _⟩ := h; rfl; done) | (obtain ⟨_, _, _, _, _, _, rfl, _⟩ := h; rfl; done) | (obtain ⟨_, _, _, _, _, _, _, rfl, _⟩ := h; rfl; done) | (obtain ⟨_, _, _, _, _, _, _, _, rfl, _⟩ := h; rfl; done) | (obtain ⟨_, _, _, _, _, _, _, _, _, rfl, _⟩ := h; rfl; done) | (obtain ⟨_, _, _, _, _, _, _, _, _, _, rfl, _⟩ := h; rfl; done) | (obtain ⟨_, _, _, _, _, _, _, _, _, _, _, rfl, _⟩ := h; rfl; done) | (obtain ⟨_, _, _, _, _, _, _, _, _, _, _, _, rfl, _⟩ := h; rfl; done) | (obtain ⟨_, _, _, _, _, _, _, _, _, _, _, _, _, rfl, _⟩ := h; rfl; done) | (obtain ⟨_, _, _, _, _, _, _, _, _, _, _, _, _, _, rfl, _⟩ := h; rfl; done) | (rcases h with ⟨_, rfl, _⟩ | ⟨_, rfl, _⟩ <;> rfl; done) | (rcases h with ⟨_, rfl, _⟩ | ⟨_, rfl, _⟩ | ⟨_, rfl, _⟩ <;> rfl; done) | (obtain ⟨_, h⟩ := h; rcases h with ⟨_, rfl, _⟩ | ⟨_, rfl, _⟩ | ⟨_, rfl, _⟩ <;> rfl; done) | (obtain ⟨_, rfl, rfl, _⟩ := h; rfl; done) | (obtain ⟨_, _, rfl, rfl, _⟩ := h; rfl; done) | (obtain ⟨_, _, _, rfl, rfl, _⟩ := h; rfl; done) | (obtain ⟨_, _, _, _, rfl, rfl, _⟩ := h; rfl; done) | (obtain ⟨_, _, _, _, _, rfl, rfl, _⟩ := h; rfl; done) | (obtain ⟨_, _, _, _, _, _, rfl, rfl, _⟩ := h; rfl; done) | (obtain ⟨_, _, _, _, _, _, _, rfl, rfl, _⟩ := h; rfl; done) | (obtain ⟨_, _, _, _, _, _, _, _, rfl, rfl, _⟩ := h; rfl; done) | (obtain ⟨_, _, _, _, _, _, _, _, _, rfl, rfl, _⟩ := h; rfl; done) | (obtain ⟨_, _, _, _, _, _, _, _, _, _, rfl, rfl, _⟩ := h; rfl; done) | (obtain ⟨_, _, _, _, _, _, _, _, _, _, _, rfl, rfl, _⟩ := h; rfl; done)) B9 (KK a9) (fun cdv A outer s H E hr => der_need_tokens T G_is_listed G_is_token hr) (fun w es n k h => w_need_tokens  h)
  have G_many_by : Go P w K mg base 2 "many_by" (toSp K manySp) [] := fn_data F10 sc_many_by (fun w es n k h => by first | (obtain ⟨rfl, _⟩ := h; rfl; done) | (obtain ⟨_, rfl, _⟩ := h; rfl; done) | (obtain ⟨_, _, rfl, _⟩ := h; rfl; done) | (obtain ⟨_, _, _, rfl, _⟩ := h; rfl; done) | (obtain ⟨_, _, _, _, rfl, _⟩ := h; rfl; done) | (obtain ⟨_, _, _, _, _, rfl, _⟩ := h; rfl; done) | (obtain ⟨_, _, _, _, _, _, rfl, _⟩ := h; rfl; done) | (obtain ⟨_, _, _, _, _, _, _, rfl, _⟩ := h; rfl; done) | (obtain ⟨_, _, _, _, _, _, _, _, rfl, _⟩ := h; rfl; done) | (obtain ⟨_, _, _, _, _, _, _, _, _, rfl, _⟩ := h; rfl; done) | (obtain ⟨_, _, _, _, _, _, _, _, _, _, rfl, _⟩ := h; rfl; done) | (obtain ⟨_, _, _, _, _, _, _, _, _, _, _, rfl, _⟩ := h; rfl; done) | (obtain ⟨_, _, _, _, _, _, _, _, _, _, _, _, rfl, _⟩ := h; rfl; done) | (obtain ⟨_, _, _, _, _, _, _, _, _, _, _, _, _, rfl, _⟩ := h; rfl; done) | (obtain ⟨_, _, _, _, _, _, _, _, _, _, _, _, _, _, rfl, _⟩ := h; rfl; done) | (rcases h with ⟨_, rfl, _⟩ | ⟨_, rfl, _⟩ <;> rfl; done) | (rcases h with ⟨_, rfl, _⟩ | ⟨_, rfl, _⟩ | ⟨_, rfl, _⟩ <;> rfl; done) | (obtain ⟨_, h⟩ := h; rcases h with ⟨_, rfl, _⟩ | ⟨_, rfl, _⟩ | ⟨_, rfl, _⟩ <;> rfl; done) | (obtain ⟨_, rfl, rfl, _⟩ := h; rfl; done) | (obtain ⟨_, _, rfl, rfl, _⟩ := h; rfl; done) | (obtain ⟨_, _, _, rfl, rfl, _⟩ := h; rfl; done) | (obtain ⟨_, _, _, _, rfl, rfl, _⟩ := h; rfl; done) | (obtain ⟨_, _, _, _, _, rfl, rfl, _⟩ := h; rfl; done) | (obtain ⟨_, _, _, _, _, _, rfl, rfl, _⟩ := h; rfl; done) | (obtain ⟨_, _, _, _, _, _, _, rfl, rfl, _⟩ := h; rfl; done) | (obtain ⟨_, _, _, _, _, _, _, _, rfl, rfl, _⟩ := h; rfl; done) | (obtain ⟨_, _, _, _, _, _, _, _, _, rfl, rfl, _⟩ := h; rfl; done) | (obtain ⟨_, _, _, _, _, _, _, _, _, _, rfl, rfl, _⟩ := h; rfl; done) | (obtain ⟨_, _, _, _, _, _, _, _, _, _, _, rfl, rfl, _⟩ := h; rfl; done)) B10 (KK a10) (fun cdv A outer s H E hr => der_many_by T G_is_listed hr) (fun w es n k h => w_many_by  h)
  have G_how_many : Go P w K mg base 5 "how_many" (toSp K howSp) [] := fn_data F11 sc_how_many (fun w es n k h => by first | (obtain ⟨rfl, _⟩ := h; rfl; done) | (obtain ⟨_, rfl, _⟩ := h; rfl; done) | (obtain ⟨_, _, rfl, _⟩ := h; rfl; done) | (obtain ⟨_, _, _, rfl, _⟩ := h; rfl; done) | (obtain ⟨_, _, _, _, rfl, _⟩ := h; rfl; done) | (obtain ⟨_, _, _, _, _, rfl, _⟩ := h; rfl; done) | (obtain ⟨_, _, _, _, _, _, rfl, _⟩ := h; rfl; done) | (obtain ⟨_, _, _, _, _, _, _, rfl, _⟩ := h; rfl; done) | (obtain ⟨_, _, _, _, _, _, _, _, rfl, _⟩ := h; rfl; done) | (obtain ⟨_, _, _, _, _, _, _, _, _, rfl, _⟩ := h; rfl; done) | (obtain ⟨_, _, _, _, _, _, _, _, _, _, rfl, _⟩ := h; rfl; done) | (obtain ⟨_, _, _, _, _, _, _, _, _, _, _, rfl, _⟩ := h; rfl; done) | (obtain ⟨_, _, _, _, _, _, _, _, _, _, _, _, rfl, _⟩ := h; rfl; done) | (obtain ⟨_, _, _, _, _, _, _, _, _, _, _, _, _, rfl, _⟩ := h; rfl; done) | (obtain ⟨_, _, _, _, _, _, _, _, _, _, _, _, _, _, rfl, _⟩ := h; rfl; done) | (rcases h with ⟨_, rfl, _⟩ | ⟨_, rfl, _⟩ <;> rfl; done) | (rcases h with ⟨_, rfl, _⟩ | ⟨_, rfl, _⟩ | ⟨_, rfl, _⟩ <;> rfl; done) | (obtain ⟨_, h⟩ := h; rcases h with ⟨_, rfl, _⟩ | ⟨_, rfl, _⟩ | ⟨_, rfl, _⟩ <;> rfl; done) | (obtain ⟨_, rfl, rfl, _⟩ := h; rfl; done) | (obtain ⟨_, _, rfl, rfl, _⟩ := h; rfl; done) | (obtain ⟨_, _, _, rfl, rfl, _⟩ := h; rfl; done) | (obtain ⟨_, _, _, _, rfl, rfl, _⟩ := h; rfl; done) | (obtain ⟨_, _, _, _, _, rfl, rfl, _⟩ := h; rfl; done) | (obtain ⟨_, _, _, _, _, _, rfl, rfl, _⟩ := h; rfl; done) | (obtain ⟨_, _, _, _, _, _, _, rfl, rfl, _⟩ := h; rfl; done) | (obtain ⟨_, _, _, _, _, _, _, _, rfl, rfl, _⟩ := h; rfl; done) | (obtain ⟨_, _, _, _, _, _, _, _, _, rfl, rfl, _⟩ := h; rfl; done) | (obtain ⟨_, _, _, _, _, _, _, _, _, _, rfl, rfl, _⟩ := h; rfl; done) | (obtain ⟨_, _, _, _, _, _, _, _, _, _, _, rfl, rfl, _⟩ := h; rfl; done)) B11 (KK a11) (fun cdv A outer s H E hr => der_how_many T G_need_tokens G_many_by hr) (fun w es n k h => w_how_many  h)
  have G_reach_of : Go P w K mg base 1 "reach_of" (toSp K reachSp) [] := fn_data F12 sc_reach_of (fun w es n k h => by first | (obtain ⟨rfl, _⟩ := h; rfl; done) | (obtain ⟨_, rfl, _⟩ := h; rfl; done) | (obtain ⟨_, _, rfl, _⟩ := h; rfl; done) | (obtain ⟨_, _, _, rfl, _⟩ := h; rfl; done) | (obtain ⟨_, _, _, _, rfl, _⟩ := h; rfl; done) | (obtain ⟨_, _, _, _, _, rfl, _⟩ := h; rfl; done) | (obtain ⟨_, _, _, _, _, _, rfl, _⟩ := h; rfl; done) | (obtain ⟨_, _, _, _, _, _, _, rfl, _⟩ := h; rfl; done) | (obtain ⟨_, _, _, _, _, _, _, _, rfl, _⟩ := h; rfl; done) | (obtain ⟨_, _, _, _, _, _, _, _, _, rfl, _⟩ := h; rfl; done) | (obtain ⟨_, _, _, _, _, _, _, _, _, _, rfl, _⟩ := h; rfl; done) | (obtain ⟨_, _, _, _, _, _, _, _, _, _, _, rfl, _⟩ := h; rfl; done) | (obtain ⟨_, _, _, _, _, _, _, _, _, _, _, _, rfl, _⟩ := h; rfl; done) | (obtain ⟨_, _, _, _, _, _, _, _, _, _, _, _, _, rfl, _⟩ := h; rfl; done) | (obtain ⟨_, _, _, _, _, _, _, _, _, _, _, _, _, _, rfl, _⟩ := h; rfl; done) | (rcases h with ⟨_, rfl, _⟩ | ⟨_, rfl, _⟩ <;> rfl; done) | (rcases h with ⟨_, rfl, _⟩ | ⟨_, rfl, _⟩ | ⟨_, rfl, _⟩ <;> rfl; done) | (obtain ⟨_, h⟩ := h; rcases h with ⟨_, rfl, _⟩ | ⟨_, rfl, _⟩ | ⟨_, rfl, _⟩ <;> rfl; done) | (obtain ⟨_, rfl, rfl, _⟩ := h; rfl; done) | (obtain ⟨_, _, rfl, rfl, _⟩ := h; rfl; done) | (obtain ⟨_, _, _, rfl, rfl, _⟩ := h; rfl; done) | (obtain ⟨_, _, _, _, rfl, rfl, _⟩ := h; rfl; done) | (obtain ⟨_, _, _, _, _, rfl, rfl, _⟩ := h; rfl; done) | (obtain ⟨_, _, _, _, _, _, rfl, rfl, _⟩ := h; rfl; done) | (obtain ⟨_, _, _, _, _, _, _, rfl, rfl, _⟩ := h; rfl; done) | (obtain ⟨_, _, _, _, _, _, _, _, rfl, rfl, _⟩ := h; rfl; done) | (obtain ⟨_, _, _, _, _, _, _, _, _, rfl, rfl, _⟩ := h; rfl; done) | (obtain ⟨_, _, _, _, _, _, _, _, _, _, rfl, rfl, _⟩ := h; rfl; done) | (obtain ⟨_, _, _, _, _, _, _, _, _, _, _, rfl, rfl, _⟩ := h; rfl; done)) B12 (KK a12) (fun cdv A outer s H E hr => der_reach_of T  hr) (fun w es n k h => w_reach_of  h)
  have G_begin_of : Go P w K mg base 2 "begin_of" (toSp K beginSp) [] := fn_data F13 sc_begin_of (fun w es n k h => by first | (obtain ⟨rfl, _⟩ := h; rfl; done) | (obtain ⟨_, rfl, _⟩ := h; rfl; done) | (obtain ⟨_, _, rfl, _⟩ := h; rfl; done) | (obtain ⟨_, _, _, rfl, _⟩ := h; rfl; done) | (obtain ⟨_, _, _, _, rfl, _⟩ := h; rfl; done) | (obtain ⟨_, _, _, _, _, rfl, _⟩ := h; rfl; done) | (obtain ⟨_, _, _, _, _, _, rfl, _⟩ := h; rfl; done) | (obtain ⟨_, _, _, _, _, _, _, rfl, _⟩ := h; rfl; done) | (obtain ⟨_, _, _, _, _, _, _, _, rfl, _⟩ := h; rfl; done) | (obtain ⟨_, _, _, _, _, _, _, _, _, rfl, _⟩ := h; rfl; done) | (obtain ⟨_, _, _, _, _, _, _, _, _, _, rfl, _⟩ := h; rfl; done) | (obtain ⟨_, _, _, _, _, _, _, _, _, _, _, rfl, _⟩ := h; rfl; done) | (obtain ⟨_, _, _, _, _, _, _, _, _, _, _, _, rfl, _⟩ := h; rfl; done) | (obtain ⟨_, _, _, _, _, _, _, _, _, _, _, _, _, rfl, _⟩ := h; rfl; done) | (obtain ⟨_, _, _, _, _, _, _, _, _, _, _, _, _, _, rfl, _⟩ := h; rfl; done) | (rcases h with ⟨_, rfl, _⟩ | ⟨_, rfl, _⟩ <;> rfl; done) | (rcases h with ⟨_, rfl, _⟩ | ⟨_, rfl, _⟩ | ⟨_, rfl, _⟩ <;> rfl; done) | (obtain ⟨_, h⟩ := h; rcases h with ⟨_, rfl, _⟩ | ⟨_, rfl, _⟩ | ⟨_, rfl, _⟩ <;> rfl; done) | (obtain ⟨_, rfl, rfl, _⟩ := h; rfl; done) | (obtain ⟨_, _, rfl, rfl, _⟩ := h; rfl; done) | (obtain ⟨_, _, _, rfl, rfl, _⟩ := h; rfl; done) | (obtain ⟨_, _, _, _, rfl, rfl, _⟩ := h; rfl; done) | (obtain ⟨_, _, _, _, _, rfl, rfl, _⟩ := h; rfl; done) | (obtain ⟨_, _, _, _, _, _, rfl, rfl, _⟩ := h; rfl; done) | (obtain ⟨_, _, _, _, _, _, _, rfl, rfl, _⟩ := h; rfl; done) | (obtain ⟨_, _, _, _, _, _, _, _, rfl, rfl, _⟩ := h; rfl; done) | (obtain ⟨_, _, _, _, _, _, _, _, _, rfl, rfl, _⟩ := h; rfl; done) | (obtain ⟨_, _, _, _, _, _, _, _, _, _, rfl, rfl, _⟩ := h; rfl; done) | (obtain ⟨_, _, _, _, _, _, _, _, _, _, _, rfl, rfl, _⟩ := h; rfl; done)) B13 (KK a13) (fun cdv A outer s H E hr => der_begin_of T G_reach_of hr) (fun w es n k h => w_begin_of  h)
  have G_next_by : Go P w K mg base 1 "next_by" (toSp K nextSp) [] := fn_data F14 sc_next_by (fun w es n k h => by first | (obtain ⟨rfl, _⟩ := h; rfl; done) | (obtain ⟨_, rfl, _⟩ := h; rfl; done) | (obtain ⟨_, _, rfl, _⟩ := h; rfl; done) | (obtain ⟨_, _, _, rfl, _⟩ := h; rfl; done) | (obtain ⟨_, _, _, _, rfl, _⟩ := h; rfl; done) | (obtain ⟨_, _, _, _, _, rfl, _⟩ := h; rfl; done) | (obtain ⟨_, _, _, _, _, _, rfl, _⟩ := h; rfl; done) | (obtain ⟨_, _, _, _, _, _, _, rfl, _⟩ := h; rfl; done) | (obtain ⟨_, _, _, _, _, _, _, _, rfl, _⟩ := h; rfl; done) | (obtain ⟨_, _, _, _, _, _, _, _, _, rfl, _⟩ := h; rfl; done) | (obtain ⟨_, _, _, _, _, _, _, _, _, _, rfl, _⟩ := h; rfl; done) | (obtain ⟨_, _, _, _, _, _, _, _, _, _, _, rfl, _⟩ := h; rfl; done) | (obtain ⟨_, _, _, _, _, _, _, _, _, _, _, _, rfl, _⟩ := h; rfl; done) | (obtain ⟨_, _, _, _, _, _, _, _, _, _, _, _, _, rfl, _⟩ := h; rfl; done) | (obtain ⟨_, _, _, _, _, _, _, _, _, _, _, _, _, _, rfl, _⟩ := h; rfl; done) | (rcases h with ⟨_, rfl, _⟩ | ⟨_, rfl, _⟩ <;> rfl; done) | (rcases h with ⟨_, rfl, _⟩ | ⟨_, rfl, _⟩ | ⟨_, rfl, _⟩ <;> rfl; done) | (obtain ⟨_, h⟩ := h; rcases h with ⟨_, rfl, _⟩ | ⟨_, rfl, _⟩ | ⟨_, rfl, _⟩ <;> rfl; done) | (obtain ⟨_, rfl, rfl, _⟩ := h; rfl; done) | (obtain ⟨_, _, rfl, rfl, _⟩ := h; rfl; done) | (obtain ⟨_, _, _, rfl, rfl, _⟩ := h; rfl; done) | (obtain ⟨_, _, _, _, rfl, rfl, _⟩ := h; rfl; done) | (obtain ⟨_, _, _, _, _, rfl, rfl, _⟩ := h; rfl; done) | (obtain ⟨_, _, _, _, _, _, rfl, rfl, _⟩ := h; rfl; done) | (obtain ⟨_, _, _, _, _, _, _, rfl, rfl, _⟩ := h; rfl; done) | (obtain ⟨_, _, _, _, _, _, _, _, rfl, rfl, _⟩ := h; rfl; done) | (obtain ⟨_, _, _, _, _, _, _, _, _, rfl, rfl, _⟩ := h; rfl; done) | (obtain ⟨_, _, _, _, _, _, _, _, _, _, rfl, rfl, _⟩ := h; rfl; done) | (obtain ⟨_, _, _, _, _, _, _, _, _, _, _, rfl, rfl, _⟩ := h; rfl; done)) B14 (KK a14) (fun cdv A outer s H E hr => der_next_by T  hr) (fun w es n k h => w_next_by  h)
  have G_difference_by : Go P w K mg base 2 "difference_by" (toSp K diffSp) [] := fn_data F15 sc_difference_by (fun w es n k h => by first | (obtain ⟨rfl, _⟩ := h; rfl; done) | (obtain ⟨_, rfl, _⟩ := h; rfl; done) | (obtain ⟨_, _, rfl, _⟩ := h; rfl; done) | (obtain ⟨_, _, _, rfl, _⟩ := h; rfl; done) | (obtain ⟨_, _, _, _, rfl, _⟩ := h; rfl; done) | (obtain ⟨_, _, _, _, _, rfl, _⟩ := h; rfl; done) | (obtain ⟨_, _, _, _, _, _, rfl, _⟩ := h; rfl; done) | (obtain ⟨_, _, _, _, _, _, _, rfl, _⟩ := h; rfl; done) | (obtain ⟨_, _, _, _, _, _, _, _, rfl, _⟩ := h; rfl; done) | (obtain ⟨_, _, _, _, _, _, _, _, _, rfl, _⟩ := h; rfl; done) | (obtain ⟨_, _, _, _, _, _, _, _, _, _, rfl, _⟩ := h; rfl; done) | (obtain ⟨_, _, _, _, _, _, _, _, _, _, _, rfl, _⟩ := h; rfl; done) | (obtain ⟨_, _, _, _, _, _, _, _, _, _, _, _, rfl, _⟩ := h; rfl; done) | (obtain ⟨_, _, _, _, _, _, _, _, _, _, _, _, _, rfl, _⟩ := h; rfl; done) | (obtain ⟨_, _, _, _, _, _, _, _, _, _, _, _, _, _, rfl, _⟩ := h; rfl; done) | (rcases h with ⟨_, rfl, _⟩ | ⟨_, rfl, _⟩ <;> rfl; done) | (rcases h with ⟨_, rfl, _⟩ | ⟨_, rfl, _⟩ | ⟨_, rfl, _⟩ <;> rfl; done) | (obtain ⟨_, h⟩ := h; rcases h with ⟨_, rfl, _⟩ | ⟨_, rfl, _⟩ | ⟨_, rfl, _⟩ <;> rfl; done) | (obtain ⟨_, rfl, rfl, _⟩ := h; rfl; done) | (obtain ⟨_, _, rfl, rfl, _⟩ := h; rfl; done) | (obtain ⟨_, _, _, rfl, rfl, _⟩ := h; rfl; done) | (obtain ⟨_, _, _, _, rfl, rfl, _⟩ := h; rfl; done) | (obtain ⟨_, _, _, _, _, rfl, rfl, _⟩ := h; rfl; done) | (obtain ⟨_, _, _, _, _, _, rfl, rfl, _⟩ := h; rfl; done) | (obtain ⟨_, _, _, _, _, _, _, rfl, rfl, _⟩ := h; rfl; done) | (obtain ⟨_, _, _, _, _, _, _, _, rfl, rfl, _⟩ := h; rfl; done) | (obtain ⟨_, _, _, _, _, _, _, _, _, rfl, rfl, _⟩ := h; rfl; done) | (obtain ⟨_, _, _, _, _, _, _, _, _, _, rfl, rfl, _⟩ := h; rfl; done) | (obtain ⟨_, _, _, _, _, _, _, _, _, _, _, rfl, rfl, _⟩ := h; rfl; done)) B15 (KK a15) (fun cdv A outer s H E hr => der_difference_by T G_is_integer hr) (fun w es n k h => w_difference_by  h)
  have G_moved : Go P w K mg base 1 "moved" (toSp K movedSp) [] := fn_data F16 sc_moved (fun w es n k h => by first | (obtain ⟨rfl, _⟩ := h; rfl; done) | (obtain ⟨_, rfl, _⟩ := h; rfl; done) | (obtain ⟨_, _, rfl, _⟩ := h; rfl; done) | (obtain ⟨_, _, _, rfl, _⟩ := h; rfl; done) | (obtain ⟨_, _, _, _, rfl, _⟩ := h; rfl; done) | (obtain ⟨_, _, _, _, _, rfl, _⟩ := h; rfl; done) | (obtain ⟨_, _, _, _, _, _, rfl, _⟩ := h; rfl; done) | (obtain ⟨_, _, _, _, _, _, _, rfl, _⟩ := h; rfl; done) | (obtain ⟨_, _, _, _, _, _, _, _, rfl, _⟩ := h; rfl; done) | (obtain ⟨_, _, _, _, _, _, _, _, _, rfl, _⟩ := h; rfl; done) | (obtain ⟨_, _, _, _, _, _, _, _, _, _, rfl, _⟩ := h; rfl; done) | (obtain ⟨_, _, _, _, _, _, _, _, _, _, _, rfl, _⟩ := h; rfl; done) | (obtain ⟨_, _, _, _, _, _, _, _, _, _, _, _, rfl, _⟩ := h; rfl; done) | (obtain ⟨_, _, _, _, _, _, _, _, _, _, _, _, _, rfl, _⟩ := h; rfl; done) | (obtain ⟨_, _, _, _, _, _, _, _, _, _, _, _, _, _, rfl, _⟩ := h; rfl; done) | (rcases h with ⟨_, rfl, _⟩ | ⟨_, rfl, _⟩ <;> rfl; done) | (rcases h with ⟨_, rfl, _⟩ | ⟨_, rfl, _⟩ | ⟨_, rfl, _⟩ <;> rfl; done) | (obtain ⟨_, h⟩ := h; rcases h with ⟨_, rfl, _⟩ | ⟨_, rfl, _⟩ | ⟨_, rfl, _⟩ <;> rfl; done) | (obtain ⟨_, rfl, rfl, _⟩ := h; rfl; done) | (obtain ⟨_, _, rfl, rfl, _⟩ := h; rfl; done) | (obtain ⟨_, _, _, rfl, rfl, _⟩ := h; rfl; done) | (obtain ⟨_, _, _, _, rfl, rfl, _⟩ := h; rfl; done) | (obtain ⟨_, _, _, _, _, rfl, rfl, _⟩ := h; rfl; done) | (obtain ⟨_, _, _, _, _, _, rfl, rfl, _⟩ := h; rfl; done) | (obtain ⟨_, _, _, _, _, _, _, rfl, rfl, _⟩ := h; rfl; done) | (obtain ⟨_, _, _, _, _, _, _, _, rfl, rfl, _⟩ := h; rfl; done) | (obtain ⟨_, _, _, _, _, _, _, _, _, rfl, rfl, _⟩ := h; rfl; done) | (obtain ⟨_, _, _, _, _, _, _, _, _, _, rfl, rfl, _⟩ := h; rfl; done) | (obtain ⟨_, _, _, _, _, _, _, _, _, _, _, rfl, rfl, _⟩ := h; rfl; done)) B16 (KK a16) (fun cdv A outer s H E hr => der_moved T  hr) (fun w es n k h => w_moved  h)
  have G_numbers_of : Go P w K mg base 6 "numbers_of" (toSp K numsSp) [] := fn_data F17 sc_numbers_of (fun w es n k h => by first | (obtain ⟨rfl, _⟩ := h; rfl; done) | (obtain ⟨_, rfl, _⟩ := h; rfl; done) | (obtain ⟨_, _, rfl, _⟩ := h; rfl; done) | (obtain ⟨_, _, _, rfl, _⟩ := h; rfl; done) | (obtain ⟨_, _, _, _, rfl, _⟩ := h; rfl; done) | (obtain ⟨_, _, _, _, _, rfl, _⟩ := h; rfl; done) | (obtain ⟨_, _, _, _, _, _, rfl, _⟩ := h; rfl; done) | (obtain ⟨_, _, _, _, _, _, _, rfl, _⟩ := h; rfl; done) | (obtain ⟨_, _, _, _, _, _, _, _, rfl, _⟩ := h; rfl; done) | (obtain ⟨_, _, _, _, _, _, _, _, _, rfl, _⟩ := h; rfl; done) | (obtain ⟨_, _, _, _, _, _, _, _, _, _, rfl, _⟩ := h; rfl; done) | (obtain ⟨_, _, _, _, _, _, _, _, _, _, _, rfl, _⟩ := h; rfl; done) | (obtain ⟨_, _, _, _, _, _, _, _, _, _, _, _, rfl, _⟩ := h; rfl; done) | (obtain ⟨_, _, _, _, _, _, _, _, _, _, _, _, _, rfl, _⟩ := h; rfl; done) | (obtain ⟨_, _, _, _, _, _, _, _, _, _, _, _, _, _, rfl, _⟩ := h; rfl; done) | (rcases h with ⟨_, rfl, _⟩ | ⟨_, rfl, _⟩ <;> rfl; done) | (rcases h with ⟨_, rfl, _⟩ | ⟨_, rfl, _⟩ | ⟨_, rfl, _⟩ <;> rfl; done) | (obtain ⟨_, h⟩ := h; rcases h with ⟨_, rfl, _⟩ | ⟨_, rfl, _⟩ | ⟨_, rfl, _⟩ <;> rfl; done) | (obtain ⟨_, rfl, rfl, _⟩ := h; rfl; done) | (obtain ⟨_, _, rfl, rfl, _⟩ := h; rfl; done) | (obtain ⟨_, _, _, rfl, rfl, _⟩ := h; rfl; done) | (obtain ⟨_, _, _, _, rfl, rfl, _⟩ := h; rfl; done) | (obtain ⟨_, _, _, _, _, rfl, rfl, _⟩ := h; rfl; done) | (obtain ⟨_, _, _, _, _, _, rfl, rfl, _⟩ := h; rfl; done) | (obtain ⟨_, _, _, _, _, _, _, rfl, rfl, _⟩ := h; rfl; done) | (obtain ⟨_, _, _, _, _, _, _, _, rfl, rfl, _⟩ := h; rfl; done) | (obtain ⟨_, _, _, _, _, _, _, _, _, rfl, rfl, _⟩ := h; rfl; done) | (obtain ⟨_, _, _, _, _, _, _, _, _, _, rfl, rfl, _⟩ := h; rfl; done) | (obtain ⟨_, _, _, _, _, _, _, _, _, _, _, rfl, rfl, _⟩ := h; rfl; done)) B17 (KK a17) (fun cdv A outer s H E hr => der_numbers_of T G_need_way G_how_many G_begin_of G_many_by G_next_by G_difference_by G_moved hr) (fun w es n k h => w_numbers_of  h)
  have G__law_next : Go P w K mg base 1 "_law_next" (toSp K lnextSp) [] := fn_data F18 sc__law_next (fun w es n k h => by first | (obtain ⟨rfl, _⟩ := h; rfl; done) | (obtain ⟨_, rfl, _⟩ := h; rfl; done) | (obtain ⟨_, _, rfl, _⟩ := h; rfl; done) | (obtain ⟨_, _, _, rfl, _⟩ := h; rfl; done) | (obtain ⟨_, _, _, _, rfl, _⟩ := h; rfl; done) | (obtain ⟨_, _, _, _, _, rfl, _⟩ := h; rfl; done) | (obtain ⟨_, _, _, _, _, _, rfl, _⟩ := h; rfl; done) | (obtain ⟨_, _, _, _, _, _, _, rfl, _⟩ := h; rfl; done) | (obtain ⟨_, _, _, _, _, _, _, _, rfl, _⟩ := h; rfl; done) | (obtain ⟨_, _, _, _, _, _, _, _, _, rfl, _⟩ := h; rfl; done) | (obtain ⟨_, _, _, _, _, _, _, _, _, _, rfl, _⟩ := h; rfl; done) | (obtain ⟨_, _, _, _, _, _, _, _, _, _, _, rfl, _⟩ := h; rfl; done) | (obtain ⟨_, _, _, _, _, _, _, _, _, _, _, _, rfl, _⟩ := h; rfl; done) | (obtain ⟨_, _, _, _, _, _, _, _, _, _, _, _, _, rfl, _⟩ := h; rfl; done) | (obtain ⟨_, _, _, _, _, _, _, _, _, _, _, _, _, _, rfl, _⟩ := h; rfl; done) | (rcases h with ⟨_, rfl, _⟩ | ⟨_, rfl, _⟩ <;> rfl; done) | (rcases h with ⟨_, rfl, _⟩ | ⟨_, rfl, _⟩ | ⟨_, rfl, _⟩ <;> rfl; done) | (obtain ⟨_, h⟩ := h; rcases h with ⟨_, rfl, _⟩ | ⟨_, rfl, _⟩ | ⟨_, rfl, _⟩ <;> rfl; done) | (obtain ⟨_, rfl, rfl, _⟩ := h; rfl; done) | (obtain ⟨_, _, rfl, rfl, _⟩ := h; rfl; done) | (obtain ⟨_, _, _, rfl, rfl, _⟩ := h; rfl; done) | (obtain ⟨_, _, _, _, rfl, rfl, _⟩ := h; rfl; done) | (obtain ⟨_, _, _, _, _, rfl, rfl, _⟩ := h; rfl; done) | (obtain ⟨_, _, _, _, _, _, rfl, rfl, _⟩ := h; rfl; done) | (obtain ⟨_, _, _, _, _, _, _, rfl, rfl, _⟩ := h; rfl; done) | (obtain ⟨_, _, _, _, _, _, _, _, rfl, rfl, _⟩ := h; rfl; done) | (obtain ⟨_, _, _, _, _, _, _, _, _, rfl, rfl, _⟩ := h; rfl; done) | (obtain ⟨_, _, _, _, _, _, _, _, _, _, rfl, rfl, _⟩ := h; rfl; done) | (obtain ⟨_, _, _, _, _, _, _, _, _, _, _, rfl, rfl, _⟩ := h; rfl; done)) B18 (KK a18) (fun cdv A outer s H E hr => der__law_next T  hr) (fun w es n k h => w__law_next  h)
  have G__law_numbers : Go P w K mg base 2 "_law_numbers" (toSp K lnumsSp) [] := fn_data F19 sc__law_numbers (fun w es n k h => by first | (obtain ⟨rfl, _⟩ := h; rfl; done) | (obtain ⟨_, rfl, _⟩ := h; rfl; done) | (obtain ⟨_, _, rfl, _⟩ := h; rfl; done) | (obtain ⟨_, _, _, rfl, _⟩ := h; rfl; done) | (obtain ⟨_, _, _, _, rfl, _⟩ := h; rfl; done) | (obtain ⟨_, _, _, _, _, rfl, _⟩ := h; rfl; done) | (obtain ⟨_, _, _, _, _, _, rfl, _⟩ := h; rfl; done) | (obtain ⟨_, _, _, _, _, _, _, rfl, _⟩ := h; rfl; done) | (obtain ⟨_, _, _, _, _, _, _, _, rfl, _⟩ := h; rfl; done) | (obtain ⟨_, _, _, _, _, _, _, _, _, rfl, _⟩ := h; rfl; done) | (obtain ⟨_, _, _, _, _, _, _, _, _, _, rfl, _⟩ := h; rfl; done) | (obtain ⟨_, _, _, _, _, _, _, _, _, _, _, rfl, _⟩ := h; rfl; done) | (obtain ⟨_, _, _, _, _, _, _, _, _, _, _, _, rfl, _⟩ := h; rfl; done) | (obtain ⟨_, _, _, _, _, _, _, _, _, _, _, _, _, rfl, _⟩ := h; rfl; done) | (obtain ⟨_, _, _, _, _, _, _, _, _, _, _, _, _, _, rfl, _⟩ := h; rfl; done) | (rcases h with ⟨_, rfl, _⟩ | ⟨_, rfl, _⟩ <;> rfl; done) | (rcases h with ⟨_, rfl, _⟩ | ⟨_, rfl, _⟩ | ⟨_, rfl, _⟩ <;> rfl; done) | (obtain ⟨_, h⟩ := h; rcases h with ⟨_, rfl, _⟩ | ⟨_, rfl, _⟩ | ⟨_, rfl, _⟩ <;> rfl; done) | (obtain ⟨_, rfl, rfl, _⟩ := h; rfl; done) | (obtain ⟨_, _, rfl, rfl, _⟩ := h; rfl; done) | (obtain ⟨_, _, _, rfl, rfl, _⟩ := h; rfl; done) | (obtain ⟨_, _, _, _, rfl, rfl, _⟩ := h; rfl; done) | (obtain ⟨_, _, _, _, _, rfl, rfl, _⟩ := h; rfl; done) | (obtain ⟨_, _, _, _, _, _, rfl, rfl, _⟩ := h; rfl; done) | (obtain ⟨_, _, _, _, _, _, _, rfl, rfl, _⟩ := h; rfl; done) | (obtain ⟨_, _, _, _, _, _, _, _, rfl, rfl, _⟩ := h; rfl; done) | (obtain ⟨_, _, _, _, _, _, _, _, _, rfl, rfl, _⟩ := h; rfl; done) | (obtain ⟨_, _, _, _, _, _, _, _, _, _, rfl, rfl, _⟩ := h; rfl; done) | (obtain ⟨_, _, _, _, _, _, _, _, _, _, _, rfl, rfl, _⟩ := h; rfl; done)) B19 (KK a19) (fun cdv A outer s H E hr => der__law_numbers T G__law_next hr) (fun w es n k h => w__law_numbers  h)
  have G__law_differences : Go P w K mg base 1 "_law_differences" (toSp K ldiffSp) [] := fn_data F20 sc__law_differences (fun w es n k h => by first | (obtain ⟨rfl, _⟩ := h; rfl; done) | (obtain ⟨_, rfl, _⟩ := h; rfl; done) | (obtain ⟨_, _, rfl, _⟩ := h; rfl; done) | (obtain ⟨_, _, _, rfl, _⟩ := h; rfl; done) | (obtain ⟨_, _, _, _, rfl, _⟩ := h; rfl; done) | (obtain ⟨_, _, _, _, _, rfl, _⟩ := h; rfl; done) | (obtain ⟨_, _, _, _, _, _, rfl, _⟩ := h; rfl; done) | (obtain ⟨_, _, _, _, _, _, _, rfl, _⟩ := h; rfl; done) | (obtain ⟨_, _, _, _, _, _, _, _, rfl, _⟩ := h; rfl; done) | (obtain ⟨_, _, _, _, _, _, _, _, _, rfl, _⟩ := h; rfl; done) | (obtain ⟨_, _, _, _, _, _, _, _, _, _, rfl, _⟩ := h; rfl; done) | (obtain ⟨_, _, _, _, _, _, _, _, _, _, _, rfl, _⟩ := h; rfl; done) | (obtain ⟨_, _, _, _, _, _, _, _, _, _, _, _, rfl, _⟩ := h; rfl; done) | (obtain ⟨_, _, _, _, _, _, _, _, _, _, _, _, _, rfl, _⟩ := h; rfl; done) | (obtain ⟨_, _, _, _, _, _, _, _, _, _, _, _, _, _, rfl, _⟩ := h; rfl; done) | (rcases h with ⟨_, rfl, _⟩ | ⟨_, rfl, _⟩ <;> rfl; done) | (rcases h with ⟨_, rfl, _⟩ | ⟨_, rfl, _⟩ | ⟨_, rfl, _⟩ <;> rfl; done) | (obtain ⟨_, h⟩ := h; rcases h with ⟨_, rfl, _⟩ | ⟨_, rfl, _⟩ | ⟨_, rfl, _⟩ <;> rfl; done) | (obtain ⟨_, rfl, rfl, _⟩ := h; rfl; done) | (obtain ⟨_, _, rfl, rfl, _⟩ := h; rfl; done) | (obtain ⟨_, _, _, rfl, rfl, _⟩ := h; rfl; done) | (obtain ⟨_, _, _, _, rfl, rfl, _⟩ := h; rfl; done) | (obtain ⟨_, _, _, _, _, rfl, rfl, _⟩ := h; rfl; done) | (obtain ⟨_, _, _, _, _, _, rfl, rfl, _⟩ := h; rfl; done) | (obtain ⟨_, _, _, _, _, _, _, rfl, rfl, _⟩ := h; rfl; done) | (obtain ⟨_, _, _, _, _, _, _, _, rfl, rfl, _⟩ := h; rfl; done) | (obtain ⟨_, _, _, _, _, _, _, _, _, rfl, rfl, _⟩ := h; rfl; done) | (obtain ⟨_, _, _, _, _, _, _, _, _, _, rfl, rfl, _⟩ := h; rfl; done) | (obtain ⟨_, _, _, _, _, _, _, _, _, _, _, rfl, rfl, _⟩ := h; rfl; done)) B20 (KK a20) (fun cdv A outer s H E hr => der__law_differences T  hr) (fun w es n k h => w__law_differences  h)
  have G_foretold : Go P w K mg base 5 "foretold" (toSp K foreSp) [] := fn_data F21 sc_foretold (fun w es n k h => by first | (obtain ⟨rfl, _⟩ := h; rfl; done) | (obtain ⟨_, rfl, _⟩ := h; rfl; done) | (obtain ⟨_, _, rfl, _⟩ := h; rfl; done) | (obtain ⟨_, _, _, rfl, _⟩ := h; rfl; done) | (obtain ⟨_, _, _, _, rfl, _⟩ := h; rfl; done) | (obtain ⟨_, _, _, _, _, rfl, _⟩ := h; rfl; done) | (obtain ⟨_, _, _, _, _, _, rfl, _⟩ := h; rfl; done) | (obtain ⟨_, _, _, _, _, _, _, rfl, _⟩ := h; rfl; done) | (obtain ⟨_, _, _, _, _, _, _, _, rfl, _⟩ := h; rfl; done) | (obtain ⟨_, _, _, _, _, _, _, _, _, rfl, _⟩ := h; rfl; done) | (obtain ⟨_, _, _, _, _, _, _, _, _, _, rfl, _⟩ := h; rfl; done) | (obtain ⟨_, _, _, _, _, _, _, _, _, _, _, rfl, _⟩ := h; rfl; done) | (obtain ⟨_, _, _, _, _, _, _, _, _, _, _, _, rfl, _⟩ := h; rfl; done) | (obtain ⟨_, _, _, _, _, _, _, _, _, _, _, _, _, rfl, _⟩ := h; rfl; done) | (obtain ⟨_, _, _, _, _, _, _, _, _, _, _, _, _, _, rfl, _⟩ := h; rfl; done) | (rcases h with ⟨_, rfl, _⟩ | ⟨_, rfl, _⟩ <;> rfl; done) | (rcases h with ⟨_, rfl, _⟩ | ⟨_, rfl, _⟩ | ⟨_, rfl, _⟩ <;> rfl; done) | (obtain ⟨_, h⟩ := h; rcases h with ⟨_, rfl, _⟩ | ⟨_, rfl, _⟩ | ⟨_, rfl, _⟩ <;> rfl; done) | (obtain ⟨_, rfl, rfl, _⟩ := h; rfl; done) | (obtain ⟨_, _, rfl, rfl, _⟩ := h; rfl; done) | (obtain ⟨_, _, _, rfl, rfl, _⟩ := h; rfl; done) | (obtain ⟨_, _, _, _, rfl, rfl, _⟩ := h; rfl; done) | (obtain ⟨_, _, _, _, _, rfl, rfl, _⟩ := h; rfl; done) | (obtain ⟨_, _, _, _, _, _, rfl, rfl, _⟩ := h; rfl; done) | (obtain ⟨_, _, _, _, _, _, _, rfl, rfl, _⟩ := h; rfl; done) | (obtain ⟨_, _, _, _, _, _, _, _, rfl, rfl, _⟩ := h; rfl; done) | (obtain ⟨_, _, _, _, _, _, _, _, _, rfl, rfl, _⟩ := h; rfl; done) | (obtain ⟨_, _, _, _, _, _, _, _, _, _, rfl, rfl, _⟩ := h; rfl; done) | (obtain ⟨_, _, _, _, _, _, _, _, _, _, _, rfl, rfl, _⟩ := h; rfl; done)) B21 (KK a21) (fun cdv A outer s H E hr => der_foretold T G_need_way G_is_listed G_is_integer G_reach_of G_next_by G_begin_of hr) (fun w es n k h => w_foretold  h)
  have G__law_right : Go P w K mg base 7 "_law_right" (toSp K lrightSp) [] := fn_data F22 sc__law_right (fun w es n k h => by first | (obtain ⟨rfl, _⟩ := h; rfl; done) | (obtain ⟨_, rfl, _⟩ := h; rfl; done) | (obtain ⟨_, _, rfl, _⟩ := h; rfl; done) | (obtain ⟨_, _, _, rfl, _⟩ := h; rfl; done) | (obtain ⟨_, _, _, _, rfl, _⟩ := h; rfl; done) | (obtain ⟨_, _, _, _, _, rfl, _⟩ := h; rfl; done) | (obtain ⟨_, _, _, _, _, _, rfl, _⟩ := h; rfl; done) | (obtain ⟨_, _, _, _, _, _, _, rfl, _⟩ := h; rfl; done) | (obtain ⟨_, _, _, _, _, _, _, _, rfl, _⟩ := h; rfl; done) | (obtain ⟨_, _, _, _, _, _, _, _, _, rfl, _⟩ := h; rfl; done) | (obtain ⟨_, _, _, _, _, _, _, _, _, _, rfl, _⟩ := h; rfl; done) | (obtain ⟨_, _, _, _, _, _, _, _, _, _, _, rfl, _⟩ := h; rfl; done) | (obtain ⟨_, _, _, _, _, _, _, _, _, _, _, _, rfl, _⟩ := h; rfl; done) | (obtain ⟨_, _, _, _, _, _, _, _, _, _, _, _, _, rfl, _⟩ := h; rfl; done) | (obtain ⟨_, _, _, _, _, _, _, _, _, _, _, _, _, _, rfl, _⟩ := h; rfl; done) | (rcases h with ⟨_, rfl, _⟩ | ⟨_, rfl, _⟩ <;> rfl; done) | (rcases h with ⟨_, rfl, _⟩ | ⟨_, rfl, _⟩ | ⟨_, rfl, _⟩ <;> rfl; done) | (obtain ⟨_, h⟩ := h; rcases h with ⟨_, rfl, _⟩ | ⟨_, rfl, _⟩ | ⟨_, rfl, _⟩ <;> rfl; done) | (obtain ⟨_, rfl, rfl, _⟩ := h; rfl; done) | (obtain ⟨_, _, rfl, rfl, _⟩ := h; rfl; done) | (obtain ⟨_, _, _, rfl, rfl, _⟩ := h; rfl; done) | (obtain ⟨_, _, _, _, rfl, rfl, _⟩ := h; rfl; done) | (obtain ⟨_, _, _, _, _, rfl, rfl, _⟩ := h; rfl; done) | (obtain ⟨_, _, _, _, _, _, rfl, rfl, _⟩ := h; rfl; done) | (obtain ⟨_, _, _, _, _, _, _, rfl, rfl, _⟩ := h; rfl; done) | (obtain ⟨_, _, _, _, _, _, _, _, rfl, rfl, _⟩ := h; rfl; done) | (obtain ⟨_, _, _, _, _, _, _, _, _, rfl, rfl, _⟩ := h; rfl; done) | (obtain ⟨_, _, _, _, _, _, _, _, _, _, rfl, rfl, _⟩ := h; rfl; done) | (obtain ⟨_, _, _, _, _, _, _, _, _, _, _, rfl, rfl, _⟩ := h; rfl; done)) B22 (KK a22) (fun cdv A outer s H E hr => der__law_right T G__law_way G__law_draw G_numbers_of G__law_numbers G__law_differences G_foretold G__law_next hr) (fun w es n k h => w__law_right  h)
  have G_padded : Go P w K mg base 1 "padded" (toSp K padSp) [] := fn_data F23 sc_padded (fun w es n k h => by first | (obtain ⟨rfl, _⟩ := h; rfl; done) | (obtain ⟨_, rfl, _⟩ := h; rfl; done) | (obtain ⟨_, _, rfl, _⟩ := h; rfl; done) | (obtain ⟨_, _, _, rfl, _⟩ := h; rfl; done) | (obtain ⟨_, _, _, _, rfl, _⟩ := h; rfl; done) | (obtain ⟨_, _, _, _, _, rfl, _⟩ := h; rfl; done) | (obtain ⟨_, _, _, _, _, _, rfl, _⟩ := h; rfl; done) | (obtain ⟨_, _, _, _, _, _, _, rfl, _⟩ := h; rfl; done) | (obtain ⟨_, _, _, _, _, _, _, _, rfl, _⟩ := h; rfl; done) | (obtain ⟨_, _, _, _, _, _, _, _, _, rfl, _⟩ := h; rfl; done) | (obtain ⟨_, _, _, _, _, _, _, _, _, _, rfl, _⟩ := h; rfl; done) | (obtain ⟨_, _, _, _, _, _, _, _, _, _, _, rfl, _⟩ := h; rfl; done) | (obtain ⟨_, _, _, _, _, _, _, _, _, _, _, _, rfl, _⟩ := h; rfl; done) | (obtain ⟨_, _, _, _, _, _, _, _, _, _, _, _, _, rfl, _⟩ := h; rfl; done) | (obtain ⟨_, _, _, _, _, _, _, _, _, _, _, _, _, _, rfl, _⟩ := h; rfl; done) | (rcases h with ⟨_, rfl, _⟩ | ⟨_, rfl, _⟩ <;> rfl; done) | (rcases h with ⟨_, rfl, _⟩ | ⟨_, rfl, _⟩ | ⟨_, rfl, _⟩ <;> rfl; done) | (obtain ⟨_, h⟩ := h; rcases h with ⟨_, rfl, _⟩ | ⟨_, rfl, _⟩ | ⟨_, rfl, _⟩ <;> rfl; done) | (obtain ⟨_, rfl, rfl, _⟩ := h; rfl; done) | (obtain ⟨_, _, rfl, rfl, _⟩ := h; rfl; done) | (obtain ⟨_, _, _, rfl, rfl, _⟩ := h; rfl; done) | (obtain ⟨_, _, _, _, rfl, rfl, _⟩ := h; rfl; done) | (obtain ⟨_, _, _, _, _, rfl, rfl, _⟩ := h; rfl; done) | (obtain ⟨_, _, _, _, _, _, rfl, rfl, _⟩ := h; rfl; done) | (obtain ⟨_, _, _, _, _, _, _, rfl, rfl, _⟩ := h; rfl; done) | (obtain ⟨_, _, _, _, _, _, _, _, rfl, rfl, _⟩ := h; rfl; done) | (obtain ⟨_, _, _, _, _, _, _, _, _, rfl, rfl, _⟩ := h; rfl; done) | (obtain ⟨_, _, _, _, _, _, _, _, _, _, rfl, rfl, _⟩ := h; rfl; done) | (obtain ⟨_, _, _, _, _, _, _, _, _, _, _, rfl, rfl, _⟩ := h; rfl; done)) B23 (KK a23) (fun cdv A outer s H E hr => der_padded T  hr) (fun w es n k h => w_padded  h)
  have G_trimmed : Go P w K mg base 1 "trimmed" (toSp K trimSp) [] := fn_data F24 sc_trimmed (fun w es n k h => by first | (obtain ⟨rfl, _⟩ := h; rfl; done) | (obtain ⟨_, rfl, _⟩ := h; rfl; done) | (obtain ⟨_, _, rfl, _⟩ := h; rfl; done) | (obtain ⟨_, _, _, rfl, _⟩ := h; rfl; done) | (obtain ⟨_, _, _, _, rfl, _⟩ := h; rfl; done) | (obtain ⟨_, _, _, _, _, rfl, _⟩ := h; rfl; done) | (obtain ⟨_, _, _, _, _, _, rfl, _⟩ := h; rfl; done) | (obtain ⟨_, _, _, _, _, _, _, rfl, _⟩ := h; rfl; done) | (obtain ⟨_, _, _, _, _, _, _, _, rfl, _⟩ := h; rfl; done) | (obtain ⟨_, _, _, _, _, _, _, _, _, rfl, _⟩ := h; rfl; done) | (obtain ⟨_, _, _, _, _, _, _, _, _, _, rfl, _⟩ := h; rfl; done) | (obtain ⟨_, _, _, _, _, _, _, _, _, _, _, rfl, _⟩ := h; rfl; done) | (obtain ⟨_, _, _, _, _, _, _, _, _, _, _, _, rfl, _⟩ := h; rfl; done) | (obtain ⟨_, _, _, _, _, _, _, _, _, _, _, _, _, rfl, _⟩ := h; rfl; done) | (obtain ⟨_, _, _, _, _, _, _, _, _, _, _, _, _, _, rfl, _⟩ := h; rfl; done) | (rcases h with ⟨_, rfl, _⟩ | ⟨_, rfl, _⟩ <;> rfl; done) | (rcases h with ⟨_, rfl, _⟩ | ⟨_, rfl, _⟩ | ⟨_, rfl, _⟩ <;> rfl; done) | (obtain ⟨_, h⟩ := h; rcases h with ⟨_, rfl, _⟩ | ⟨_, rfl, _⟩ | ⟨_, rfl, _⟩ <;> rfl; done) | (obtain ⟨_, rfl, rfl, _⟩ := h; rfl; done) | (obtain ⟨_, _, rfl, rfl, _⟩ := h; rfl; done) | (obtain ⟨_, _, _, rfl, rfl, _⟩ := h; rfl; done) | (obtain ⟨_, _, _, _, rfl, rfl, _⟩ := h; rfl; done) | (obtain ⟨_, _, _, _, _, rfl, rfl, _⟩ := h; rfl; done) | (obtain ⟨_, _, _, _, _, _, rfl, rfl, _⟩ := h; rfl; done) | (obtain ⟨_, _, _, _, _, _, _, rfl, rfl, _⟩ := h; rfl; done) | (obtain ⟨_, _, _, _, _, _, _, _, rfl, rfl, _⟩ := h; rfl; done) | (obtain ⟨_, _, _, _, _, _, _, _, _, rfl, rfl, _⟩ := h; rfl; done) | (obtain ⟨_, _, _, _, _, _, _, _, _, _, rfl, rfl, _⟩ := h; rfl; done) | (obtain ⟨_, _, _, _, _, _, _, _, _, _, _, rfl, rfl, _⟩ := h; rfl; done)) B24 (KK a24) (fun cdv A outer s H E hr => der_trimmed T  hr) (fun w es n k h => w_trimmed  h)
  have G_pairs_of : Go P w K mg base 1 "pairs_of" (toSp K pairsSp) [] := fn_data F25 sc_pairs_of (fun w es n k h => by first | (obtain ⟨rfl, _⟩ := h; rfl; done) | (obtain ⟨_, rfl, _⟩ := h; rfl; done) | (obtain ⟨_, _, rfl, _⟩ := h; rfl; done) | (obtain ⟨_, _, _, rfl, _⟩ := h; rfl; done) | (obtain ⟨_, _, _, _, rfl, _⟩ := h; rfl; done) | (obtain ⟨_, _, _, _, _, rfl, _⟩ := h; rfl; done) | (obtain ⟨_, _, _, _, _, _, rfl, _⟩ := h; rfl; done) | (obtain ⟨_, _, _, _, _, _, _, rfl, _⟩ := h; rfl; done) | (obtain ⟨_, _, _, _, _, _, _, _, rfl, _⟩ := h; rfl; done) | (obtain ⟨_, _, _, _, _, _, _, _, _, rfl, _⟩ := h; rfl; done) | (obtain ⟨_, _, _, _, _, _, _, _, _, _, rfl, _⟩ := h; rfl; done) | (obtain ⟨_, _, _, _, _, _, _, _, _, _, _, rfl, _⟩ := h; rfl; done) | (obtain ⟨_, _, _, _, _, _, _, _, _, _, _, _, rfl, _⟩ := h; rfl; done) | (obtain ⟨_, _, _, _, _, _, _, _, _, _, _, _, _, rfl, _⟩ := h; rfl; done) | (obtain ⟨_, _, _, _, _, _, _, _, _, _, _, _, _, _, rfl, _⟩ := h; rfl; done) | (rcases h with ⟨_, rfl, _⟩ | ⟨_, rfl, _⟩ <;> rfl; done) | (rcases h with ⟨_, rfl, _⟩ | ⟨_, rfl, _⟩ | ⟨_, rfl, _⟩ <;> rfl; done) | (obtain ⟨_, h⟩ := h; rcases h with ⟨_, rfl, _⟩ | ⟨_, rfl, _⟩ | ⟨_, rfl, _⟩ <;> rfl; done) | (obtain ⟨_, rfl, rfl, _⟩ := h; rfl; done) | (obtain ⟨_, _, rfl, rfl, _⟩ := h; rfl; done) | (obtain ⟨_, _, _, rfl, rfl, _⟩ := h; rfl; done) | (obtain ⟨_, _, _, _, rfl, rfl, _⟩ := h; rfl; done) | (obtain ⟨_, _, _, _, _, rfl, rfl, _⟩ := h; rfl; done) | (obtain ⟨_, _, _, _, _, _, rfl, rfl, _⟩ := h; rfl; done) | (obtain ⟨_, _, _, _, _, _, _, rfl, rfl, _⟩ := h; rfl; done) | (obtain ⟨_, _, _, _, _, _, _, _, rfl, rfl, _⟩ := h; rfl; done) | (obtain ⟨_, _, _, _, _, _, _, _, _, rfl, rfl, _⟩ := h; rfl; done) | (obtain ⟨_, _, _, _, _, _, _, _, _, _, rfl, rfl, _⟩ := h; rfl; done) | (obtain ⟨_, _, _, _, _, _, _, _, _, _, _, rfl, rfl, _⟩ := h; rfl; done)) B25 (KK a25) (fun cdv A outer s H E hr => der_pairs_of T  hr) (fun w es n k h => w_pairs_of  h)
  have G_number_at : Go P w K mg base 2 "number_at" (toSp K naSp) [] := fn_data F26 sc_number_at (fun w es n k h => by first | (obtain ⟨rfl, _⟩ := h; rfl; done) | (obtain ⟨_, rfl, _⟩ := h; rfl; done) | (obtain ⟨_, _, rfl, _⟩ := h; rfl; done) | (obtain ⟨_, _, _, rfl, _⟩ := h; rfl; done) | (obtain ⟨_, _, _, _, rfl, _⟩ := h; rfl; done) | (obtain ⟨_, _, _, _, _, rfl, _⟩ := h; rfl; done) | (obtain ⟨_, _, _, _, _, _, rfl, _⟩ := h; rfl; done) | (obtain ⟨_, _, _, _, _, _, _, rfl, _⟩ := h; rfl; done) | (obtain ⟨_, _, _, _, _, _, _, _, rfl, _⟩ := h; rfl; done) | (obtain ⟨_, _, _, _, _, _, _, _, _, rfl, _⟩ := h; rfl; done) | (obtain ⟨_, _, _, _, _, _, _, _, _, _, rfl, _⟩ := h; rfl; done) | (obtain ⟨_, _, _, _, _, _, _, _, _, _, _, rfl, _⟩ := h; rfl; done) | (obtain ⟨_, _, _, _, _, _, _, _, _, _, _, _, rfl, _⟩ := h; rfl; done) | (obtain ⟨_, _, _, _, _, _, _, _, _, _, _, _, _, rfl, _⟩ := h; rfl; done) | (obtain ⟨_, _, _, _, _, _, _, _, _, _, _, _, _, _, rfl, _⟩ := h; rfl; done) | (rcases h with ⟨_, rfl, _⟩ | ⟨_, rfl, _⟩ <;> rfl; done) | (rcases h with ⟨_, rfl, _⟩ | ⟨_, rfl, _⟩ | ⟨_, rfl, _⟩ <;> rfl; done) | (obtain ⟨_, h⟩ := h; rcases h with ⟨_, rfl, _⟩ | ⟨_, rfl, _⟩ | ⟨_, rfl, _⟩ <;> rfl; done) | (obtain ⟨_, rfl, rfl, _⟩ := h; rfl; done) | (obtain ⟨_, _, rfl, rfl, _⟩ := h; rfl; done) | (obtain ⟨_, _, _, rfl, rfl, _⟩ := h; rfl; done) | (obtain ⟨_, _, _, _, rfl, rfl, _⟩ := h; rfl; done) | (obtain ⟨_, _, _, _, _, rfl, rfl, _⟩ := h; rfl; done) | (obtain ⟨_, _, _, _, _, _, rfl, rfl, _⟩ := h; rfl; done) | (obtain ⟨_, _, _, _, _, _, _, rfl, rfl, _⟩ := h; rfl; done) | (obtain ⟨_, _, _, _, _, _, _, _, rfl, rfl, _⟩ := h; rfl; done) | (obtain ⟨_, _, _, _, _, _, _, _, _, rfl, rfl, _⟩ := h; rfl; done) | (obtain ⟨_, _, _, _, _, _, _, _, _, _, rfl, rfl, _⟩ := h; rfl; done) | (obtain ⟨_, _, _, _, _, _, _, _, _, _, _, rfl, rfl, _⟩ := h; rfl; done)) B26 (KK a26) (fun cdv A outer s H E hr => der_number_at T G_padded G_pairs_of hr) (fun w es n k h => w_number_at  h)
  have G_part_of : Go P w K mg base 3 "part_of" (toSp K partSp) [] := fn_data F27 sc_part_of (fun w es n k h => by first | (obtain ⟨rfl, _⟩ := h; rfl; done) | (obtain ⟨_, rfl, _⟩ := h; rfl; done) | (obtain ⟨_, _, rfl, _⟩ := h; rfl; done) | (obtain ⟨_, _, _, rfl, _⟩ := h; rfl; done) | (obtain ⟨_, _, _, _, rfl, _⟩ := h; rfl; done) | (obtain ⟨_, _, _, _, _, rfl, _⟩ := h; rfl; done) | (obtain ⟨_, _, _, _, _, _, rfl, _⟩ := h; rfl; done) | (obtain ⟨_, _, _, _, _, _, _, rfl, _⟩ := h; rfl; done) | (obtain ⟨_, _, _, _, _, _, _, _, rfl, _⟩ := h; rfl; done) | (obtain ⟨_, _, _, _, _, _, _, _, _, rfl, _⟩ := h; rfl; done) | (obtain ⟨_, _, _, _, _, _, _, _, _, _, rfl, _⟩ := h; rfl; done) | (obtain ⟨_, _, _, _, _, _, _, _, _, _, _, rfl, _⟩ := h; rfl; done) | (obtain ⟨_, _, _, _, _, _, _, _, _, _, _, _, rfl, _⟩ := h; rfl; done) | (obtain ⟨_, _, _, _, _, _, _, _, _, _, _, _, _, rfl, _⟩ := h; rfl; done) | (obtain ⟨_, _, _, _, _, _, _, _, _, _, _, _, _, _, rfl, _⟩ := h; rfl; done) | (rcases h with ⟨_, rfl, _⟩ | ⟨_, rfl, _⟩ <;> rfl; done) | (rcases h with ⟨_, rfl, _⟩ | ⟨_, rfl, _⟩ | ⟨_, rfl, _⟩ <;> rfl; done) | (obtain ⟨_, h⟩ := h; rcases h with ⟨_, rfl, _⟩ | ⟨_, rfl, _⟩ | ⟨_, rfl, _⟩ <;> rfl; done) | (obtain ⟨_, rfl, rfl, _⟩ := h; rfl; done) | (obtain ⟨_, _, rfl, rfl, _⟩ := h; rfl; done) | (obtain ⟨_, _, _, rfl, rfl, _⟩ := h; rfl; done) | (obtain ⟨_, _, _, _, rfl, rfl, _⟩ := h; rfl; done) | (obtain ⟨_, _, _, _, _, rfl, rfl, _⟩ := h; rfl; done) | (obtain ⟨_, _, _, _, _, _, rfl, rfl, _⟩ := h; rfl; done) | (obtain ⟨_, _, _, _, _, _, _, rfl, rfl, _⟩ := h; rfl; done) | (obtain ⟨_, _, _, _, _, _, _, _, rfl, rfl, _⟩ := h; rfl; done) | (obtain ⟨_, _, _, _, _, _, _, _, _, rfl, rfl, _⟩ := h; rfl; done) | (obtain ⟨_, _, _, _, _, _, _, _, _, _, rfl, rfl, _⟩ := h; rfl; done) | (obtain ⟨_, _, _, _, _, _, _, _, _, _, _, rfl, rfl, _⟩ := h; rfl; done)) B27 (KK a27) (fun cdv A outer s H E hr => der_part_of T G_padded G_trimmed G_number_at hr) (fun w es n k h => w_part_of  h)
  have G_cut_row : Go P w K mg base 4 "cut_row" (toSp K cutrSp) [] := fn_data F28 sc_cut_row (fun w es n k h => by first | (obtain ⟨rfl, _⟩ := h; rfl; done) | (obtain ⟨_, rfl, _⟩ := h; rfl; done) | (obtain ⟨_, _, rfl, _⟩ := h; rfl; done) | (obtain ⟨_, _, _, rfl, _⟩ := h; rfl; done) | (obtain ⟨_, _, _, _, rfl, _⟩ := h; rfl; done) | (obtain ⟨_, _, _, _, _, rfl, _⟩ := h; rfl; done) | (obtain ⟨_, _, _, _, _, _, rfl, _⟩ := h; rfl; done) | (obtain ⟨_, _, _, _, _, _, _, rfl, _⟩ := h; rfl; done) | (obtain ⟨_, _, _, _, _, _, _, _, rfl, _⟩ := h; rfl; done) | (obtain ⟨_, _, _, _, _, _, _, _, _, rfl, _⟩ := h; rfl; done) | (obtain ⟨_, _, _, _, _, _, _, _, _, _, rfl, _⟩ := h; rfl; done) | (obtain ⟨_, _, _, _, _, _, _, _, _, _, _, rfl, _⟩ := h; rfl; done) | (obtain ⟨_, _, _, _, _, _, _, _, _, _, _, _, rfl, _⟩ := h; rfl; done) | (obtain ⟨_, _, _, _, _, _, _, _, _, _, _, _, _, rfl, _⟩ := h; rfl; done) | (obtain ⟨_, _, _, _, _, _, _, _, _, _, _, _, _, _, rfl, _⟩ := h; rfl; done) | (rcases h with ⟨_, rfl, _⟩ | ⟨_, rfl, _⟩ <;> rfl; done) | (rcases h with ⟨_, rfl, _⟩ | ⟨_, rfl, _⟩ | ⟨_, rfl, _⟩ <;> rfl; done) | (obtain ⟨_, h⟩ := h; rcases h with ⟨_, rfl, _⟩ | ⟨_, rfl, _⟩ | ⟨_, rfl, _⟩ <;> rfl; done) | (obtain ⟨_, rfl, rfl, _⟩ := h; rfl; done) | (obtain ⟨_, _, rfl, rfl, _⟩ := h; rfl; done) | (obtain ⟨_, _, _, rfl, rfl, _⟩ := h; rfl; done) | (obtain ⟨_, _, _, _, rfl, rfl, _⟩ := h; rfl; done) | (obtain ⟨_, _, _, _, _, rfl, rfl, _⟩ := h; rfl; done) | (obtain ⟨_, _, _, _, _, _, rfl, rfl, _⟩ := h; rfl; done) | (obtain ⟨_, _, _, _, _, _, _, rfl, rfl, _⟩ := h; rfl; done) | (obtain ⟨_, _, _, _, _, _, _, _, rfl, rfl, _⟩ := h; rfl; done) | (obtain ⟨_, _, _, _, _, _, _, _, _, rfl, rfl, _⟩ := h; rfl; done) | (obtain ⟨_, _, _, _, _, _, _, _, _, _, rfl, rfl, _⟩ := h; rfl; done) | (obtain ⟨_, _, _, _, _, _, _, _, _, _, _, rfl, rfl, _⟩ := h; rfl; done)) B28 (KK a28) (fun cdv A outer s H E hr => der_cut_row T G_part_of hr) (fun w es n k h => w_cut_row  h)
  have G_moments_of : Go P w K mg base 2 "moments_of" (toSp K momsSp) [] := fn_data F29 sc_moments_of (fun w es n k h => by first | (obtain ⟨rfl, _⟩ := h; rfl; done) | (obtain ⟨_, rfl, _⟩ := h; rfl; done) | (obtain ⟨_, _, rfl, _⟩ := h; rfl; done) | (obtain ⟨_, _, _, rfl, _⟩ := h; rfl; done) | (obtain ⟨_, _, _, _, rfl, _⟩ := h; rfl; done) | (obtain ⟨_, _, _, _, _, rfl, _⟩ := h; rfl; done) | (obtain ⟨_, _, _, _, _, _, rfl, _⟩ := h; rfl; done) | (obtain ⟨_, _, _, _, _, _, _, rfl, _⟩ := h; rfl; done) | (obtain ⟨_, _, _, _, _, _, _, _, rfl, _⟩ := h; rfl; done) | (obtain ⟨_, _, _, _, _, _, _, _, _, rfl, _⟩ := h; rfl; done) | (obtain ⟨_, _, _, _, _, _, _, _, _, _, rfl, _⟩ := h; rfl; done) | (obtain ⟨_, _, _, _, _, _, _, _, _, _, _, rfl, _⟩ := h; rfl; done) | (obtain ⟨_, _, _, _, _, _, _, _, _, _, _, _, rfl, _⟩ := h; rfl; done) | (obtain ⟨_, _, _, _, _, _, _, _, _, _, _, _, _, rfl, _⟩ := h; rfl; done) | (obtain ⟨_, _, _, _, _, _, _, _, _, _, _, _, _, _, rfl, _⟩ := h; rfl; done) | (rcases h with ⟨_, rfl, _⟩ | ⟨_, rfl, _⟩ <;> rfl; done) | (rcases h with ⟨_, rfl, _⟩ | ⟨_, rfl, _⟩ | ⟨_, rfl, _⟩ <;> rfl; done) | (obtain ⟨_, h⟩ := h; rcases h with ⟨_, rfl, _⟩ | ⟨_, rfl, _⟩ | ⟨_, rfl, _⟩ <;> rfl; done) | (obtain ⟨_, rfl, rfl, _⟩ := h; rfl; done) | (obtain ⟨_, _, rfl, rfl, _⟩ := h; rfl; done) | (obtain ⟨_, _, _, rfl, rfl, _⟩ := h; rfl; done) | (obtain ⟨_, _, _, _, rfl, rfl, _⟩ := h; rfl; done) | (obtain ⟨_, _, _, _, _, rfl, rfl, _⟩ := h; rfl; done) | (obtain ⟨_, _, _, _, _, _, rfl, rfl, _⟩ := h; rfl; done) | (obtain ⟨_, _, _, _, _, _, _, rfl, rfl, _⟩ := h; rfl; done) | (obtain ⟨_, _, _, _, _, _, _, _, rfl, rfl, _⟩ := h; rfl; done) | (obtain ⟨_, _, _, _, _, _, _, _, _, rfl, rfl, _⟩ := h; rfl; done) | (obtain ⟨_, _, _, _, _, _, _, _, _, _, rfl, rfl, _⟩ := h; rfl; done) | (obtain ⟨_, _, _, _, _, _, _, _, _, _, _, rfl, rfl, _⟩ := h; rfl; done)) B29 (KK a29) (fun cdv A outer s H E hr => der_moments_of T G_padded hr) (fun w es n k h => w_moments_of  h)
  have Gn_fixed : Go P w K mg base 0 "fixed" (toSp K fun _ _ _ _ => False) [] := ⟨_, _, _, _, ⟨fun vs H Q E h => (by obtain ⟨w, S, es, n, k, _, _, z, _⟩ := h; exact z.elim), fun A outer s H args us vs Q E _ _ _ _ h => (by obtain ⟨w, S, es, n, k, _, _, z, _⟩ := h; exact z.elim)⟩, KK a30, F30.kp, B30, .nil⟩
  have G0_fixed : Go P w K mg base 1 "fixed" (toSp K fixed0Sp) [] := fn_data F30 sc_fixed (fun w es n k h => by rcases h with ⟨_, rfl, _⟩ | ⟨_, rfl, _⟩ <;> rfl) B30 (KK a30) (fun cdv A outer s H E hr => der_fixed T Gn_fixed hr) (fun w es n k h => w_fixed0 h)
  have G1_fixed : Go P w K mg base 2 "fixed" (toSp K fixed1Sp) [] := fn_data F30 sc_fixed (fun w es n k h => by rcases h with (⟨_, rfl, _⟩ | ⟨_, rfl, _⟩) | ⟨_, (rfl | rfl), _⟩ <;> rfl) B30 (KK a30) (fun cdv A outer s H E hr => der_fixed T G0_fixed hr) (fun w es n k h => w_fixed1 h)
  have G_fixed : Go P w K mg base 3 "fixed" (toSp K fixedSp) [] := fn_data F30 sc_fixed (fun w es n k h => by obtain ⟨_, _, _, _, _, _, rfl, _⟩ := h; rfl) B30 (KK a30) (fun cdv A outer s H E hr => der_fixed T G1_fixed hr) (fun w es n k h => w_fixed h)
  have FP_Piece : FnR P w K mg base CX0 4 fPPiece (superSp K C_Piece gP) := StX.fn_star (pv := "parts") (ps := ["self", "word"]) (sp := initSp K C_Piece gP) lPPiece cPPiece sc_Paper_init StX.cxUp_none (StX.bind_star2 (B := fun us => bindArgs (PySem.W.fnOf "__init__" "Paper.__init__" (defArgs s_Paper_init) (defBody s_Paper_init) (defScope s_Paper_init) .none kVPPiece dcPPiece pmPPiece anPPiece cdPPiece ctPPiece) ⟨us, []⟩) (p1 := "self") (p2 := "word") (pv := "parts") (fun a b => rfl) (fun a b r rs => rfl)) (fun A outer s H vs Q E hr h =>
    ⟨_, (der_Paper_init T G_fixed hr).nox, init_ok (fun es ns l hg => w_Paper_init TP_Piece hg) h⟩)
  have SF_Piece : SupFn K P C_Piece ccPiece cdaPiece fPPiece := ⟨Option.isSome_iff_exists.mp dclPiece, ⟨_, _, _, _, _, _, cdlPiece, vs2Piece, filPiece⟩, ⟨_, _, _, cclxPiece⟩, opq, tyPPiece, fiPPiece, topS⟩
  have FE_Piece : FnOk P w K mg base CX0 5 fPiece _ ["self", "moment", "step", "count", "kind", "numbers"] (initSp K C_Piece gX) := fn_super (ar := ⟨"self", none, _⟩) lPiece cEPiece sc_Piece_init (by simp) SF_Piece FP_Piece (by decide) (PySem.W.mg_none_of X G nsup) rfl rfl rfl
    (fun vs H Q E h => initSp_len (j := 5) (fun es ns l hg => by obtain ⟨_, _, _, _, _, _, rfl, _⟩ := hg; rfl) h) (by decide) (fun _ => rfl) (fun _ => rfl) _ (fun _ => rfl) (fun A outer s H vs Q E hr h => by
      obtain ⟨x, dx, h1, h2, h3⟩ := super_ok (E2 := E0) (N := ["self", "moment", "step", "count", "kind", "numbers", "__class__"]) (Dc := C_Piece) (g2 := gP) (tA := a_Piece_init K) (t := r_Piece_init K) (fun es ns l hg => w_Piece_init T_Piece hg) h
      exact ⟨x, C_Piece, dx, [], E0, _, _, h1, h2, ⟨supPiece, satPiece⟩, pass0, dera_Piece_init T hr, (der_Piece_init T hr).nox, h3⟩)
  have M_Piece : Mkc P w K mg base 5 "Piece" C_Piece (initSp K C_Piece gX) [] := ⟨fPiece, _, _, [], ⟨mkPiece, aPiece, iPiece, kcPiece⟩, FE_Piece, KK nPiece, .all (fun us hl => match us, hl with | [_, _, _, _, _, _], _ => rfl), .nil⟩
  have G_zipped : Go P w K mg base 7 "zipped" (toSp K (zipSp C_Piece)) [] := fn_data F31 sc_zipped (fun w es n k h => by first | (obtain ⟨rfl, _⟩ := h; rfl; done) | (obtain ⟨_, rfl, _⟩ := h; rfl; done) | (obtain ⟨_, _, rfl, _⟩ := h; rfl; done) | (obtain ⟨_, _, _, rfl, _⟩ := h; rfl; done) | (obtain ⟨_, _, _, _, rfl, _⟩ := h; rfl; done) | (obtain ⟨_, _, _, _, _, rfl, _⟩ := h; rfl; done) | (obtain ⟨_, _, _, _, _, _, rfl, _⟩ := h; rfl; done) | (obtain ⟨_, _, _, _, _, _, _, rfl, _⟩ := h; rfl; done) | (obtain ⟨_, _, _, _, _, _, _, _, rfl, _⟩ := h; rfl; done) | (obtain ⟨_, _, _, _, _, _, _, _, _, rfl, _⟩ := h; rfl; done) | (obtain ⟨_, _, _, _, _, _, _, _, _, _, rfl, _⟩ := h; rfl; done) | (obtain ⟨_, _, _, _, _, _, _, _, _, _, _, rfl, _⟩ := h; rfl; done) | (obtain ⟨_, _, _, _, _, _, _, _, _, _, _, _, rfl, _⟩ := h; rfl; done) | (obtain ⟨_, _, _, _, _, _, _, _, _, _, _, _, _, rfl, _⟩ := h; rfl; done) | (obtain ⟨_, _, _, _, _, _, _, _, _, _, _, _, _, _, rfl, _⟩ := h; rfl; done) | (rcases h with ⟨_, rfl, _⟩ | ⟨_, rfl, _⟩ <;> rfl; done) | (rcases h with ⟨_, rfl, _⟩ | ⟨_, rfl, _⟩ | ⟨_, rfl, _⟩ <;> rfl; done) | (obtain ⟨_, h⟩ := h; rcases h with ⟨_, rfl, _⟩ | ⟨_, rfl, _⟩ | ⟨_, rfl, _⟩ <;> rfl; done) | (obtain ⟨_, rfl, rfl, _⟩ := h; rfl; done) | (obtain ⟨_, _, rfl, rfl, _⟩ := h; rfl; done) | (obtain ⟨_, _, _, rfl, rfl, _⟩ := h; rfl; done) | (obtain ⟨_, _, _, _, rfl, rfl, _⟩ := h; rfl; done) | (obtain ⟨_, _, _, _, _, rfl, rfl, _⟩ := h; rfl; done) | (obtain ⟨_, _, _, _, _, _, rfl, rfl, _⟩ := h; rfl; done) | (obtain ⟨_, _, _, _, _, _, _, rfl, rfl, _⟩ := h; rfl; done) | (obtain ⟨_, _, _, _, _, _, _, _, rfl, rfl, _⟩ := h; rfl; done) | (obtain ⟨_, _, _, _, _, _, _, _, _, rfl, rfl, _⟩ := h; rfl; done) | (obtain ⟨_, _, _, _, _, _, _, _, _, _, rfl, rfl, _⟩ := h; rfl; done) | (obtain ⟨_, _, _, _, _, _, _, _, _, _, _, rfl, rfl, _⟩ := h; rfl; done)) B31 (KK a31) (fun cdv A outer s H E hr => der_zipped T G_cut_row G_moments_of M_Piece hr) (fun w es n k h => w_zipped  h)
  have G_run_by : Go P w K mg base 2 "run_by" (toSp K runbySp) [] := fn_data F32 sc_run_by (fun w es n k h => by first | (obtain ⟨rfl, _⟩ := h; rfl; done) | (obtain ⟨_, rfl, _⟩ := h; rfl; done) | (obtain ⟨_, _, rfl, _⟩ := h; rfl; done) | (obtain ⟨_, _, _, rfl, _⟩ := h; rfl; done) | (obtain ⟨_, _, _, _, rfl, _⟩ := h; rfl; done) | (obtain ⟨_, _, _, _, _, rfl, _⟩ := h; rfl; done) | (obtain ⟨_, _, _, _, _, _, rfl, _⟩ := h; rfl; done) | (obtain ⟨_, _, _, _, _, _, _, rfl, _⟩ := h; rfl; done) | (obtain ⟨_, _, _, _, _, _, _, _, rfl, _⟩ := h; rfl; done) | (obtain ⟨_, _, _, _, _, _, _, _, _, rfl, _⟩ := h; rfl; done) | (obtain ⟨_, _, _, _, _, _, _, _, _, _, rfl, _⟩ := h; rfl; done) | (obtain ⟨_, _, _, _, _, _, _, _, _, _, _, rfl, _⟩ := h; rfl; done) | (obtain ⟨_, _, _, _, _, _, _, _, _, _, _, _, rfl, _⟩ := h; rfl; done) | (obtain ⟨_, _, _, _, _, _, _, _, _, _, _, _, _, rfl, _⟩ := h; rfl; done) | (obtain ⟨_, _, _, _, _, _, _, _, _, _, _, _, _, _, rfl, _⟩ := h; rfl; done) | (rcases h with ⟨_, rfl, _⟩ | ⟨_, rfl, _⟩ <;> rfl; done) | (rcases h with ⟨_, rfl, _⟩ | ⟨_, rfl, _⟩ | ⟨_, rfl, _⟩ <;> rfl; done) | (obtain ⟨_, h⟩ := h; rcases h with ⟨_, rfl, _⟩ | ⟨_, rfl, _⟩ | ⟨_, rfl, _⟩ <;> rfl; done) | (obtain ⟨_, rfl, rfl, _⟩ := h; rfl; done) | (obtain ⟨_, _, rfl, rfl, _⟩ := h; rfl; done) | (obtain ⟨_, _, _, rfl, rfl, _⟩ := h; rfl; done) | (obtain ⟨_, _, _, _, rfl, rfl, _⟩ := h; rfl; done) | (obtain ⟨_, _, _, _, _, rfl, rfl, _⟩ := h; rfl; done) | (obtain ⟨_, _, _, _, _, _, rfl, rfl, _⟩ := h; rfl; done) | (obtain ⟨_, _, _, _, _, _, _, rfl, rfl, _⟩ := h; rfl; done) | (obtain ⟨_, _, _, _, _, _, _, _, rfl, rfl, _⟩ := h; rfl; done) | (obtain ⟨_, _, _, _, _, _, _, _, _, rfl, rfl, _⟩ := h; rfl; done) | (obtain ⟨_, _, _, _, _, _, _, _, _, _, rfl, rfl, _⟩ := h; rfl; done) | (obtain ⟨_, _, _, _, _, _, _, _, _, _, _, rfl, rfl, _⟩ := h; rfl; done)) B32 (KK a32) (fun cdv A outer s H E hr => der_run_by T G_next_by G_moved G_trimmed hr) (fun w es n k h => w_run_by  h)
  have G_last_of : Go P w K mg base 3 "last_of" (toSp K lastoSp) [] := fn_data F33 sc_last_of (fun w es n k h => by first | (obtain ⟨rfl, _⟩ := h; rfl; done) | (obtain ⟨_, rfl, _⟩ := h; rfl; done) | (obtain ⟨_, _, rfl, _⟩ := h; rfl; done) | (obtain ⟨_, _, _, rfl, _⟩ := h; rfl; done) | (obtain ⟨_, _, _, _, rfl, _⟩ := h; rfl; done) | (obtain ⟨_, _, _, _, _, rfl, _⟩ := h; rfl; done) | (obtain ⟨_, _, _, _, _, _, rfl, _⟩ := h; rfl; done) | (obtain ⟨_, _, _, _, _, _, _, rfl, _⟩ := h; rfl; done) | (obtain ⟨_, _, _, _, _, _, _, _, rfl, _⟩ := h; rfl; done) | (obtain ⟨_, _, _, _, _, _, _, _, _, rfl, _⟩ := h; rfl; done) | (obtain ⟨_, _, _, _, _, _, _, _, _, _, rfl, _⟩ := h; rfl; done) | (obtain ⟨_, _, _, _, _, _, _, _, _, _, _, rfl, _⟩ := h; rfl; done) | (obtain ⟨_, _, _, _, _, _, _, _, _, _, _, _, rfl, _⟩ := h; rfl; done) | (obtain ⟨_, _, _, _, _, _, _, _, _, _, _, _, _, rfl, _⟩ := h; rfl; done) | (obtain ⟨_, _, _, _, _, _, _, _, _, _, _, _, _, _, rfl, _⟩ := h; rfl; done) | (rcases h with ⟨_, rfl, _⟩ | ⟨_, rfl, _⟩ <;> rfl; done) | (rcases h with ⟨_, rfl, _⟩ | ⟨_, rfl, _⟩ | ⟨_, rfl, _⟩ <;> rfl; done) | (obtain ⟨_, h⟩ := h; rcases h with ⟨_, rfl, _⟩ | ⟨_, rfl, _⟩ | ⟨_, rfl, _⟩ <;> rfl; done) | (obtain ⟨_, rfl, rfl, _⟩ := h; rfl; done) | (obtain ⟨_, _, rfl, rfl, _⟩ := h; rfl; done) | (obtain ⟨_, _, _, rfl, rfl, _⟩ := h; rfl; done) | (obtain ⟨_, _, _, _, rfl, rfl, _⟩ := h; rfl; done) | (obtain ⟨_, _, _, _, _, rfl, rfl, _⟩ := h; rfl; done) | (obtain ⟨_, _, _, _, _, _, rfl, rfl, _⟩ := h; rfl; done) | (obtain ⟨_, _, _, _, _, _, _, rfl, rfl, _⟩ := h; rfl; done) | (obtain ⟨_, _, _, _, _, _, _, _, rfl, rfl, _⟩ := h; rfl; done) | (obtain ⟨_, _, _, _, _, _, _, _, _, rfl, rfl, _⟩ := h; rfl; done) | (obtain ⟨_, _, _, _, _, _, _, _, _, _, rfl, rfl, _⟩ := h; rfl; done) | (obtain ⟨_, _, _, _, _, _, _, _, _, _, _, rfl, rfl, _⟩ := h; rfl; done)) B33 (KK a33) (fun cdv A outer s H E hr => der_last_of T G_number_at hr) (fun w es n k h => w_last_of  h)
  have G_stretches_of : Go P w K mg base 4 "stretches_of" (toSp K strSp) [] := fn_data F34 sc_stretches_of (fun w es n k h => by first | (obtain ⟨rfl, _⟩ := h; rfl; done) | (obtain ⟨_, rfl, _⟩ := h; rfl; done) | (obtain ⟨_, _, rfl, _⟩ := h; rfl; done) | (obtain ⟨_, _, _, rfl, _⟩ := h; rfl; done) | (obtain ⟨_, _, _, _, rfl, _⟩ := h; rfl; done) | (obtain ⟨_, _, _, _, _, rfl, _⟩ := h; rfl; done) | (obtain ⟨_, _, _, _, _, _, rfl, _⟩ := h; rfl; done) | (obtain ⟨_, _, _, _, _, _, _, rfl, _⟩ := h; rfl; done) | (obtain ⟨_, _, _, _, _, _, _, _, rfl, _⟩ := h; rfl; done) | (obtain ⟨_, _, _, _, _, _, _, _, _, rfl, _⟩ := h; rfl; done) | (obtain ⟨_, _, _, _, _, _, _, _, _, _, rfl, _⟩ := h; rfl; done) | (obtain ⟨_, _, _, _, _, _, _, _, _, _, _, rfl, _⟩ := h; rfl; done) | (obtain ⟨_, _, _, _, _, _, _, _, _, _, _, _, rfl, _⟩ := h; rfl; done) | (obtain ⟨_, _, _, _, _, _, _, _, _, _, _, _, _, rfl, _⟩ := h; rfl; done) | (obtain ⟨_, _, _, _, _, _, _, _, _, _, _, _, _, _, rfl, _⟩ := h; rfl; done) | (rcases h with ⟨_, rfl, _⟩ | ⟨_, rfl, _⟩ <;> rfl; done) | (rcases h with ⟨_, rfl, _⟩ | ⟨_, rfl, _⟩ | ⟨_, rfl, _⟩ <;> rfl; done) | (obtain ⟨_, h⟩ := h; rcases h with ⟨_, rfl, _⟩ | ⟨_, rfl, _⟩ | ⟨_, rfl, _⟩ <;> rfl; done) | (obtain ⟨_, rfl, rfl, _⟩ := h; rfl; done) | (obtain ⟨_, _, rfl, rfl, _⟩ := h; rfl; done) | (obtain ⟨_, _, _, rfl, rfl, _⟩ := h; rfl; done) | (obtain ⟨_, _, _, _, rfl, rfl, _⟩ := h; rfl; done) | (obtain ⟨_, _, _, _, _, rfl, rfl, _⟩ := h; rfl; done) | (obtain ⟨_, _, _, _, _, _, rfl, rfl, _⟩ := h; rfl; done) | (obtain ⟨_, _, _, _, _, _, _, rfl, rfl, _⟩ := h; rfl; done) | (obtain ⟨_, _, _, _, _, _, _, _, rfl, rfl, _⟩ := h; rfl; done) | (obtain ⟨_, _, _, _, _, _, _, _, _, rfl, rfl, _⟩ := h; rfl; done) | (obtain ⟨_, _, _, _, _, _, _, _, _, _, rfl, rfl, _⟩ := h; rfl; done) | (obtain ⟨_, _, _, _, _, _, _, _, _, _, _, rfl, rfl, _⟩ := h; rfl; done)) B34 (KK a34) (fun cdv A outer s H E hr => der_stretches_of T G_begin_of G_many_by G_next_by G_difference_by G_moved G_run_by G_last_of hr) (fun w es n k h => w_stretches_of  h)
  have G_pieces_of : Go P w K mg base 8 "pieces_of" (toSp K (pofSp C_Piece)) [] := fn_data F35 sc_pieces_of (fun w es n k h => by first | (obtain ⟨rfl, _⟩ := h; rfl; done) | (obtain ⟨_, rfl, _⟩ := h; rfl; done) | (obtain ⟨_, _, rfl, _⟩ := h; rfl; done) | (obtain ⟨_, _, _, rfl, _⟩ := h; rfl; done) | (obtain ⟨_, _, _, _, rfl, _⟩ := h; rfl; done) | (obtain ⟨_, _, _, _, _, rfl, _⟩ := h; rfl; done) | (obtain ⟨_, _, _, _, _, _, rfl, _⟩ := h; rfl; done) | (obtain ⟨_, _, _, _, _, _, _, rfl, _⟩ := h; rfl; done) | (obtain ⟨_, _, _, _, _, _, _, _, rfl, _⟩ := h; rfl; done) | (obtain ⟨_, _, _, _, _, _, _, _, _, rfl, _⟩ := h; rfl; done) | (obtain ⟨_, _, _, _, _, _, _, _, _, _, rfl, _⟩ := h; rfl; done) | (obtain ⟨_, _, _, _, _, _, _, _, _, _, _, rfl, _⟩ := h; rfl; done) | (obtain ⟨_, _, _, _, _, _, _, _, _, _, _, _, rfl, _⟩ := h; rfl; done) | (obtain ⟨_, _, _, _, _, _, _, _, _, _, _, _, _, rfl, _⟩ := h; rfl; done) | (obtain ⟨_, _, _, _, _, _, _, _, _, _, _, _, _, _, rfl, _⟩ := h; rfl; done) | (rcases h with ⟨_, rfl, _⟩ | ⟨_, rfl, _⟩ <;> rfl; done) | (rcases h with ⟨_, rfl, _⟩ | ⟨_, rfl, _⟩ | ⟨_, rfl, _⟩ <;> rfl; done) | (obtain ⟨_, h⟩ := h; rcases h with ⟨_, rfl, _⟩ | ⟨_, rfl, _⟩ | ⟨_, rfl, _⟩ <;> rfl; done) | (obtain ⟨_, rfl, rfl, _⟩ := h; rfl; done) | (obtain ⟨_, _, rfl, rfl, _⟩ := h; rfl; done) | (obtain ⟨_, _, _, rfl, rfl, _⟩ := h; rfl; done) | (obtain ⟨_, _, _, _, rfl, rfl, _⟩ := h; rfl; done) | (obtain ⟨_, _, _, _, _, rfl, rfl, _⟩ := h; rfl; done) | (obtain ⟨_, _, _, _, _, _, rfl, rfl, _⟩ := h; rfl; done) | (obtain ⟨_, _, _, _, _, _, _, rfl, rfl, _⟩ := h; rfl; done) | (obtain ⟨_, _, _, _, _, _, _, _, rfl, rfl, _⟩ := h; rfl; done) | (obtain ⟨_, _, _, _, _, _, _, _, _, rfl, rfl, _⟩ := h; rfl; done) | (obtain ⟨_, _, _, _, _, _, _, _, _, _, rfl, rfl, _⟩ := h; rfl; done) | (obtain ⟨_, _, _, _, _, _, _, _, _, _, _, rfl, rfl, _⟩ := h; rfl; done)) B35 (KK a35) (fun cdv A outer s H E hr => der_pieces_of T G_need_way G_need_tokens G_many_by G_zipped G_stretches_of hr) (fun w es n k h => w_pieces_of  h)
  have G_is_piece : Go P w K mg base 3 "is_piece" (toSp K (pieceSp C_Piece)) [] := fn_data F36 sc_is_piece (fun w es n k h => by first | (obtain ⟨rfl, _⟩ := h; rfl; done) | (obtain ⟨_, rfl, _⟩ := h; rfl; done) | (obtain ⟨_, _, rfl, _⟩ := h; rfl; done) | (obtain ⟨_, _, _, rfl, _⟩ := h; rfl; done) | (obtain ⟨_, _, _, _, rfl, _⟩ := h; rfl; done) | (obtain ⟨_, _, _, _, _, rfl, _⟩ := h; rfl; done) | (obtain ⟨_, _, _, _, _, _, rfl, _⟩ := h; rfl; done) | (obtain ⟨_, _, _, _, _, _, _, rfl, _⟩ := h; rfl; done) | (obtain ⟨_, _, _, _, _, _, _, _, rfl, _⟩ := h; rfl; done) | (obtain ⟨_, _, _, _, _, _, _, _, _, rfl, _⟩ := h; rfl; done) | (obtain ⟨_, _, _, _, _, _, _, _, _, _, rfl, _⟩ := h; rfl; done) | (obtain ⟨_, _, _, _, _, _, _, _, _, _, _, rfl, _⟩ := h; rfl; done) | (obtain ⟨_, _, _, _, _, _, _, _, _, _, _, _, rfl, _⟩ := h; rfl; done) | (obtain ⟨_, _, _, _, _, _, _, _, _, _, _, _, _, rfl, _⟩ := h; rfl; done) | (obtain ⟨_, _, _, _, _, _, _, _, _, _, _, _, _, _, rfl, _⟩ := h; rfl; done) | (rcases h with ⟨_, rfl, _⟩ | ⟨_, rfl, _⟩ <;> rfl; done) | (rcases h with ⟨_, rfl, _⟩ | ⟨_, rfl, _⟩ | ⟨_, rfl, _⟩ <;> rfl; done) | (obtain ⟨_, h⟩ := h; rcases h with ⟨_, rfl, _⟩ | ⟨_, rfl, _⟩ | ⟨_, rfl, _⟩ <;> rfl; done) | (obtain ⟨_, rfl, rfl, _⟩ := h; rfl; done) | (obtain ⟨_, _, rfl, rfl, _⟩ := h; rfl; done) | (obtain ⟨_, _, _, rfl, rfl, _⟩ := h; rfl; done) | (obtain ⟨_, _, _, _, rfl, rfl, _⟩ := h; rfl; done) | (obtain ⟨_, _, _, _, _, rfl, rfl, _⟩ := h; rfl; done) | (obtain ⟨_, _, _, _, _, _, rfl, rfl, _⟩ := h; rfl; done) | (obtain ⟨_, _, _, _, _, _, _, rfl, rfl, _⟩ := h; rfl; done) | (obtain ⟨_, _, _, _, _, _, _, _, rfl, rfl, _⟩ := h; rfl; done) | (obtain ⟨_, _, _, _, _, _, _, _, _, rfl, rfl, _⟩ := h; rfl; done) | (obtain ⟨_, _, _, _, _, _, _, _, _, _, rfl, rfl, _⟩ := h; rfl; done) | (obtain ⟨_, _, _, _, _, _, _, _, _, _, _, rfl, rfl, _⟩ := h; rfl; done)) B36 (KK a36) (fun cdv A outer s H E hr => der_is_piece T G_is_within G_is_listed G_is_integer hr) (fun w es n k h => w_is_piece T_Piece O_Piece h)
  have G_turn_of : Go P w K mg base 2 "turn_of" (toSp K turnSp) [] := fn_data F37 sc_turn_of (fun w es n k h => by first | (obtain ⟨rfl, _⟩ := h; rfl; done) | (obtain ⟨_, rfl, _⟩ := h; rfl; done) | (obtain ⟨_, _, rfl, _⟩ := h; rfl; done) | (obtain ⟨_, _, _, rfl, _⟩ := h; rfl; done) | (obtain ⟨_, _, _, _, rfl, _⟩ := h; rfl; done) | (obtain ⟨_, _, _, _, _, rfl, _⟩ := h; rfl; done) | (obtain ⟨_, _, _, _, _, _, rfl, _⟩ := h; rfl; done) | (obtain ⟨_, _, _, _, _, _, _, rfl, _⟩ := h; rfl; done) | (obtain ⟨_, _, _, _, _, _, _, _, rfl, _⟩ := h; rfl; done) | (obtain ⟨_, _, _, _, _, _, _, _, _, rfl, _⟩ := h; rfl; done) | (obtain ⟨_, _, _, _, _, _, _, _, _, _, rfl, _⟩ := h; rfl; done) | (obtain ⟨_, _, _, _, _, _, _, _, _, _, _, rfl, _⟩ := h; rfl; done) | (obtain ⟨_, _, _, _, _, _, _, _, _, _, _, _, rfl, _⟩ := h; rfl; done) | (obtain ⟨_, _, _, _, _, _, _, _, _, _, _, _, _, rfl, _⟩ := h; rfl; done) | (obtain ⟨_, _, _, _, _, _, _, _, _, _, _, _, _, _, rfl, _⟩ := h; rfl; done) | (rcases h with ⟨_, rfl, _⟩ | ⟨_, rfl, _⟩ <;> rfl; done) | (rcases h with ⟨_, rfl, _⟩ | ⟨_, rfl, _⟩ | ⟨_, rfl, _⟩ <;> rfl; done) | (obtain ⟨_, h⟩ := h; rcases h with ⟨_, rfl, _⟩ | ⟨_, rfl, _⟩ | ⟨_, rfl, _⟩ <;> rfl; done) | (obtain ⟨_, rfl, rfl, _⟩ := h; rfl; done) | (obtain ⟨_, _, rfl, rfl, _⟩ := h; rfl; done) | (obtain ⟨_, _, _, rfl, rfl, _⟩ := h; rfl; done) | (obtain ⟨_, _, _, _, rfl, rfl, _⟩ := h; rfl; done) | (obtain ⟨_, _, _, _, _, rfl, rfl, _⟩ := h; rfl; done) | (obtain ⟨_, _, _, _, _, _, rfl, rfl, _⟩ := h; rfl; done) | (obtain ⟨_, _, _, _, _, _, _, rfl, rfl, _⟩ := h; rfl; done) | (obtain ⟨_, _, _, _, _, _, _, _, rfl, rfl, _⟩ := h; rfl; done) | (obtain ⟨_, _, _, _, _, _, _, _, _, rfl, rfl, _⟩ := h; rfl; done) | (obtain ⟨_, _, _, _, _, _, _, _, _, _, rfl, rfl, _⟩ := h; rfl; done) | (obtain ⟨_, _, _, _, _, _, _, _, _, _, _, rfl, rfl, _⟩ := h; rfl; done)) B37 (KK a37) (fun cdv A outer s H E hr => der_turn_of T G_padded hr) (fun w es n k h => w_turn_of  h)
  have G_first_bad_moment : Go P w K mg base 1 "first_bad_moment" (toSp K (badmSp C_Piece)) [] := fn_data F38 sc_first_bad_moment (fun w es n k h => by first | (obtain ⟨rfl, _⟩ := h; rfl; done) | (obtain ⟨_, rfl, _⟩ := h; rfl; done) | (obtain ⟨_, _, rfl, _⟩ := h; rfl; done) | (obtain ⟨_, _, _, rfl, _⟩ := h; rfl; done) | (obtain ⟨_, _, _, _, rfl, _⟩ := h; rfl; done) | (obtain ⟨_, _, _, _, _, rfl, _⟩ := h; rfl; done) | (obtain ⟨_, _, _, _, _, _, rfl, _⟩ := h; rfl; done) | (obtain ⟨_, _, _, _, _, _, _, rfl, _⟩ := h; rfl; done) | (obtain ⟨_, _, _, _, _, _, _, _, rfl, _⟩ := h; rfl; done) | (obtain ⟨_, _, _, _, _, _, _, _, _, rfl, _⟩ := h; rfl; done) | (obtain ⟨_, _, _, _, _, _, _, _, _, _, rfl, _⟩ := h; rfl; done) | (obtain ⟨_, _, _, _, _, _, _, _, _, _, _, rfl, _⟩ := h; rfl; done) | (obtain ⟨_, _, _, _, _, _, _, _, _, _, _, _, rfl, _⟩ := h; rfl; done) | (obtain ⟨_, _, _, _, _, _, _, _, _, _, _, _, _, rfl, _⟩ := h; rfl; done) | (obtain ⟨_, _, _, _, _, _, _, _, _, _, _, _, _, _, rfl, _⟩ := h; rfl; done) | (rcases h with ⟨_, rfl, _⟩ | ⟨_, rfl, _⟩ <;> rfl; done) | (rcases h with ⟨_, rfl, _⟩ | ⟨_, rfl, _⟩ | ⟨_, rfl, _⟩ <;> rfl; done) | (obtain ⟨_, h⟩ := h; rcases h with ⟨_, rfl, _⟩ | ⟨_, rfl, _⟩ | ⟨_, rfl, _⟩ <;> rfl; done) | (obtain ⟨_, rfl, rfl, _⟩ := h; rfl; done) | (obtain ⟨_, _, rfl, rfl, _⟩ := h; rfl; done) | (obtain ⟨_, _, _, rfl, rfl, _⟩ := h; rfl; done) | (obtain ⟨_, _, _, _, rfl, rfl, _⟩ := h; rfl; done) | (obtain ⟨_, _, _, _, _, rfl, rfl, _⟩ := h; rfl; done) | (obtain ⟨_, _, _, _, _, _, rfl, rfl, _⟩ := h; rfl; done) | (obtain ⟨_, _, _, _, _, _, _, rfl, rfl, _⟩ := h; rfl; done) | (obtain ⟨_, _, _, _, _, _, _, _, rfl, rfl, _⟩ := h; rfl; done) | (obtain ⟨_, _, _, _, _, _, _, _, _, rfl, rfl, _⟩ := h; rfl; done) | (obtain ⟨_, _, _, _, _, _, _, _, _, _, rfl, rfl, _⟩ := h; rfl; done) | (obtain ⟨_, _, _, _, _, _, _, _, _, _, _, rfl, rfl, _⟩ := h; rfl; done)) B38 (KK a38) (fun cdv A outer s H E hr => der_first_bad_moment T  hr) (fun w es n k h => w_first_bad_moment T_Piece h)
  have G_first_beyond : Go P w K mg base 4 "first_beyond" (toSp K beyondSp) [] := go_beyond T lR0 cR0R kR0 (KK aR0) (NdefX.tabB_of_K KB hcR0 (tb PR0 (by simp)).1 (tb PR0 (by simp)).2) tabR0 (fun _ _ => rfl) F49 (KK a49) B49 G_number_at G_turn_of
  have G_wrong_in : Go P w K mg base 5 "wrong_in" (toSp K (wrongSp C_Piece)) [] := fn_data F39 sc_wrong_in (fun w es n k h => by first | (obtain ⟨rfl, _⟩ := h; rfl; done) | (obtain ⟨_, rfl, _⟩ := h; rfl; done) | (obtain ⟨_, _, rfl, _⟩ := h; rfl; done) | (obtain ⟨_, _, _, rfl, _⟩ := h; rfl; done) | (obtain ⟨_, _, _, _, rfl, _⟩ := h; rfl; done) | (obtain ⟨_, _, _, _, _, rfl, _⟩ := h; rfl; done) | (obtain ⟨_, _, _, _, _, _, rfl, _⟩ := h; rfl; done) | (obtain ⟨_, _, _, _, _, _, _, rfl, _⟩ := h; rfl; done) | (obtain ⟨_, _, _, _, _, _, _, _, rfl, _⟩ := h; rfl; done) | (obtain ⟨_, _, _, _, _, _, _, _, _, rfl, _⟩ := h; rfl; done) | (obtain ⟨_, _, _, _, _, _, _, _, _, _, rfl, _⟩ := h; rfl; done) | (obtain ⟨_, _, _, _, _, _, _, _, _, _, _, rfl, _⟩ := h; rfl; done) | (obtain ⟨_, _, _, _, _, _, _, _, _, _, _, _, rfl, _⟩ := h; rfl; done) | (obtain ⟨_, _, _, _, _, _, _, _, _, _, _, _, _, rfl, _⟩ := h; rfl; done) | (obtain ⟨_, _, _, _, _, _, _, _, _, _, _, _, _, _, rfl, _⟩ := h; rfl; done) | (rcases h with ⟨_, rfl, _⟩ | ⟨_, rfl, _⟩ <;> rfl; done) | (rcases h with ⟨_, rfl, _⟩ | ⟨_, rfl, _⟩ | ⟨_, rfl, _⟩ <;> rfl; done) | (obtain ⟨_, h⟩ := h; rcases h with ⟨_, rfl, _⟩ | ⟨_, rfl, _⟩ | ⟨_, rfl, _⟩ <;> rfl; done) | (obtain ⟨_, rfl, rfl, _⟩ := h; rfl; done) | (obtain ⟨_, _, rfl, rfl, _⟩ := h; rfl; done) | (obtain ⟨_, _, _, rfl, rfl, _⟩ := h; rfl; done) | (obtain ⟨_, _, _, _, rfl, rfl, _⟩ := h; rfl; done) | (obtain ⟨_, _, _, _, _, rfl, rfl, _⟩ := h; rfl; done) | (obtain ⟨_, _, _, _, _, _, rfl, rfl, _⟩ := h; rfl; done) | (obtain ⟨_, _, _, _, _, _, _, rfl, rfl, _⟩ := h; rfl; done) | (obtain ⟨_, _, _, _, _, _, _, _, rfl, rfl, _⟩ := h; rfl; done) | (obtain ⟨_, _, _, _, _, _, _, _, _, rfl, rfl, _⟩ := h; rfl; done) | (obtain ⟨_, _, _, _, _, _, _, _, _, _, rfl, rfl, _⟩ := h; rfl; done) | (obtain ⟨_, _, _, _, _, _, _, _, _, _, _, rfl, rfl, _⟩ := h; rfl; done)) B39 (KK a39) (fun cdv A outer s H E hr => der_wrong_in T G_first_beyond G_first_bad_moment hr) (fun w es n k h => w_wrong_in T_Piece h)
  have G_moment_at : Go P w K mg base 1 "moment_at" (toSp K (momSp C_Piece)) [] := fn_data F40 sc_moment_at (fun w es n k h => by first | (obtain ⟨rfl, _⟩ := h; rfl; done) | (obtain ⟨_, rfl, _⟩ := h; rfl; done) | (obtain ⟨_, _, rfl, _⟩ := h; rfl; done) | (obtain ⟨_, _, _, rfl, _⟩ := h; rfl; done) | (obtain ⟨_, _, _, _, rfl, _⟩ := h; rfl; done) | (obtain ⟨_, _, _, _, _, rfl, _⟩ := h; rfl; done) | (obtain ⟨_, _, _, _, _, _, rfl, _⟩ := h; rfl; done) | (obtain ⟨_, _, _, _, _, _, _, rfl, _⟩ := h; rfl; done) | (obtain ⟨_, _, _, _, _, _, _, _, rfl, _⟩ := h; rfl; done) | (obtain ⟨_, _, _, _, _, _, _, _, _, rfl, _⟩ := h; rfl; done) | (obtain ⟨_, _, _, _, _, _, _, _, _, _, rfl, _⟩ := h; rfl; done) | (obtain ⟨_, _, _, _, _, _, _, _, _, _, _, rfl, _⟩ := h; rfl; done) | (obtain ⟨_, _, _, _, _, _, _, _, _, _, _, _, rfl, _⟩ := h; rfl; done) | (obtain ⟨_, _, _, _, _, _, _, _, _, _, _, _, _, rfl, _⟩ := h; rfl; done) | (obtain ⟨_, _, _, _, _, _, _, _, _, _, _, _, _, _, rfl, _⟩ := h; rfl; done) | (rcases h with ⟨_, rfl, _⟩ | ⟨_, rfl, _⟩ <;> rfl; done) | (rcases h with ⟨_, rfl, _⟩ | ⟨_, rfl, _⟩ | ⟨_, rfl, _⟩ <;> rfl; done) | (obtain ⟨_, h⟩ := h; rcases h with ⟨_, rfl, _⟩ | ⟨_, rfl, _⟩ | ⟨_, rfl, _⟩ <;> rfl; done) | (obtain ⟨_, rfl, rfl, _⟩ := h; rfl; done) | (obtain ⟨_, _, rfl, rfl, _⟩ := h; rfl; done) | (obtain ⟨_, _, _, rfl, rfl, _⟩ := h; rfl; done) | (obtain ⟨_, _, _, _, rfl, rfl, _⟩ := h; rfl; done) | (obtain ⟨_, _, _, _, _, rfl, rfl, _⟩ := h; rfl; done) | (obtain ⟨_, _, _, _, _, _, rfl, rfl, _⟩ := h; rfl; done) | (obtain ⟨_, _, _, _, _, _, _, rfl, rfl, _⟩ := h; rfl; done) | (obtain ⟨_, _, _, _, _, _, _, _, rfl, rfl, _⟩ := h; rfl; done) | (obtain ⟨_, _, _, _, _, _, _, _, _, rfl, rfl, _⟩ := h; rfl; done) | (obtain ⟨_, _, _, _, _, _, _, _, _, _, rfl, rfl, _⟩ := h; rfl; done) | (obtain ⟨_, _, _, _, _, _, _, _, _, _, _, rfl, rfl, _⟩ := h; rfl; done)) B40 (KK a40) (fun cdv A outer s H E hr => der_moment_at T  hr) (fun w es n k h => w_moment_at T_Piece h)
  have G_last_moment : Go P w K mg base 2 "last_moment" (toSp K (lastSp C_Piece)) [] := fn_data F41 sc_last_moment (fun w es n k h => by first | (obtain ⟨rfl, _⟩ := h; rfl; done) | (obtain ⟨_, rfl, _⟩ := h; rfl; done) | (obtain ⟨_, _, rfl, _⟩ := h; rfl; done) | (obtain ⟨_, _, _, rfl, _⟩ := h; rfl; done) | (obtain ⟨_, _, _, _, rfl, _⟩ := h; rfl; done) | (obtain ⟨_, _, _, _, _, rfl, _⟩ := h; rfl; done) | (obtain ⟨_, _, _, _, _, _, rfl, _⟩ := h; rfl; done) | (obtain ⟨_, _, _, _, _, _, _, rfl, _⟩ := h; rfl; done) | (obtain ⟨_, _, _, _, _, _, _, _, rfl, _⟩ := h; rfl; done) | (obtain ⟨_, _, _, _, _, _, _, _, _, rfl, _⟩ := h; rfl; done) | (obtain ⟨_, _, _, _, _, _, _, _, _, _, rfl, _⟩ := h; rfl; done) | (obtain ⟨_, _, _, _, _, _, _, _, _, _, _, rfl, _⟩ := h; rfl; done) | (obtain ⟨_, _, _, _, _, _, _, _, _, _, _, _, rfl, _⟩ := h; rfl; done) | (obtain ⟨_, _, _, _, _, _, _, _, _, _, _, _, _, rfl, _⟩ := h; rfl; done) | (obtain ⟨_, _, _, _, _, _, _, _, _, _, _, _, _, _, rfl, _⟩ := h; rfl; done) | (rcases h with ⟨_, rfl, _⟩ | ⟨_, rfl, _⟩ <;> rfl; done) | (rcases h with ⟨_, rfl, _⟩ | ⟨_, rfl, _⟩ | ⟨_, rfl, _⟩ <;> rfl; done) | (obtain ⟨_, h⟩ := h; rcases h with ⟨_, rfl, _⟩ | ⟨_, rfl, _⟩ | ⟨_, rfl, _⟩ <;> rfl; done) | (obtain ⟨_, rfl, rfl, _⟩ := h; rfl; done) | (obtain ⟨_, _, rfl, rfl, _⟩ := h; rfl; done) | (obtain ⟨_, _, _, rfl, rfl, _⟩ := h; rfl; done) | (obtain ⟨_, _, _, _, rfl, rfl, _⟩ := h; rfl; done) | (obtain ⟨_, _, _, _, _, rfl, rfl, _⟩ := h; rfl; done) | (obtain ⟨_, _, _, _, _, _, rfl, rfl, _⟩ := h; rfl; done) | (obtain ⟨_, _, _, _, _, _, _, rfl, rfl, _⟩ := h; rfl; done) | (obtain ⟨_, _, _, _, _, _, _, _, rfl, rfl, _⟩ := h; rfl; done) | (obtain ⟨_, _, _, _, _, _, _, _, _, rfl, rfl, _⟩ := h; rfl; done) | (obtain ⟨_, _, _, _, _, _, _, _, _, _, rfl, rfl, _⟩ := h; rfl; done) | (obtain ⟨_, _, _, _, _, _, _, _, _, _, _, rfl, rfl, _⟩ := h; rfl; done)) B41 (KK a41) (fun cdv A outer s H E hr => der_last_moment T G_moment_at hr) (fun w es n k h => w_last_moment T_Piece h)
  have G_first_wrong : Go P w K mg base 6 "first_wrong" (toSp K (fwSp C_Piece)) [] := fn_data F42 sc_first_wrong (fun w es n k h => by first | (obtain ⟨rfl, _⟩ := h; rfl; done) | (obtain ⟨_, rfl, _⟩ := h; rfl; done) | (obtain ⟨_, _, rfl, _⟩ := h; rfl; done) | (obtain ⟨_, _, _, rfl, _⟩ := h; rfl; done) | (obtain ⟨_, _, _, _, rfl, _⟩ := h; rfl; done) | (obtain ⟨_, _, _, _, _, rfl, _⟩ := h; rfl; done) | (obtain ⟨_, _, _, _, _, _, rfl, _⟩ := h; rfl; done) | (obtain ⟨_, _, _, _, _, _, _, rfl, _⟩ := h; rfl; done) | (obtain ⟨_, _, _, _, _, _, _, _, rfl, _⟩ := h; rfl; done) | (obtain ⟨_, _, _, _, _, _, _, _, _, rfl, _⟩ := h; rfl; done) | (obtain ⟨_, _, _, _, _, _, _, _, _, _, rfl, _⟩ := h; rfl; done) | (obtain ⟨_, _, _, _, _, _, _, _, _, _, _, rfl, _⟩ := h; rfl; done) | (obtain ⟨_, _, _, _, _, _, _, _, _, _, _, _, rfl, _⟩ := h; rfl; done) | (obtain ⟨_, _, _, _, _, _, _, _, _, _, _, _, _, rfl, _⟩ := h; rfl; done) | (obtain ⟨_, _, _, _, _, _, _, _, _, _, _, _, _, _, rfl, _⟩ := h; rfl; done) | (rcases h with ⟨_, rfl, _⟩ | ⟨_, rfl, _⟩ <;> rfl; done) | (rcases h with ⟨_, rfl, _⟩ | ⟨_, rfl, _⟩ | ⟨_, rfl, _⟩ <;> rfl; done) | (obtain ⟨_, h⟩ := h; rcases h with ⟨_, rfl, _⟩ | ⟨_, rfl, _⟩ | ⟨_, rfl, _⟩ <;> rfl; done) | (obtain ⟨_, rfl, rfl, _⟩ := h; rfl; done) | (obtain ⟨_, _, rfl, rfl, _⟩ := h; rfl; done) | (obtain ⟨_, _, _, rfl, rfl, _⟩ := h; rfl; done) | (obtain ⟨_, _, _, _, rfl, rfl, _⟩ := h; rfl; done) | (obtain ⟨_, _, _, _, _, rfl, rfl, _⟩ := h; rfl; done) | (obtain ⟨_, _, _, _, _, _, rfl, rfl, _⟩ := h; rfl; done) | (obtain ⟨_, _, _, _, _, _, _, rfl, rfl, _⟩ := h; rfl; done) | (obtain ⟨_, _, _, _, _, _, _, _, rfl, rfl, _⟩ := h; rfl; done) | (obtain ⟨_, _, _, _, _, _, _, _, _, rfl, rfl, _⟩ := h; rfl; done) | (obtain ⟨_, _, _, _, _, _, _, _, _, _, rfl, rfl, _⟩ := h; rfl; done) | (obtain ⟨_, _, _, _, _, _, _, _, _, _, _, rfl, rfl, _⟩ := h; rfl; done)) B42 (KK a42) (fun cdv A outer s H E hr => der_first_wrong T G_wrong_in G_last_moment hr) (fun w es n k h => w_first_wrong T_Piece h)
  have G_are_pieces : Go P w K mg base 7 "are_pieces" (toSp K (piecesSp C_Piece)) [] := fn_data F43 sc_are_pieces (fun w es n k h => by first | (obtain ⟨rfl, _⟩ := h; rfl; done) | (obtain ⟨_, rfl, _⟩ := h; rfl; done) | (obtain ⟨_, _, rfl, _⟩ := h; rfl; done) | (obtain ⟨_, _, _, rfl, _⟩ := h; rfl; done) | (obtain ⟨_, _, _, _, rfl, _⟩ := h; rfl; done) | (obtain ⟨_, _, _, _, _, rfl, _⟩ := h; rfl; done) | (obtain ⟨_, _, _, _, _, _, rfl, _⟩ := h; rfl; done) | (obtain ⟨_, _, _, _, _, _, _, rfl, _⟩ := h; rfl; done) | (obtain ⟨_, _, _, _, _, _, _, _, rfl, _⟩ := h; rfl; done) | (obtain ⟨_, _, _, _, _, _, _, _, _, rfl, _⟩ := h; rfl; done) | (obtain ⟨_, _, _, _, _, _, _, _, _, _, rfl, _⟩ := h; rfl; done) | (obtain ⟨_, _, _, _, _, _, _, _, _, _, _, rfl, _⟩ := h; rfl; done) | (obtain ⟨_, _, _, _, _, _, _, _, _, _, _, _, rfl, _⟩ := h; rfl; done) | (obtain ⟨_, _, _, _, _, _, _, _, _, _, _, _, _, rfl, _⟩ := h; rfl; done) | (obtain ⟨_, _, _, _, _, _, _, _, _, _, _, _, _, _, rfl, _⟩ := h; rfl; done) | (rcases h with ⟨_, rfl, _⟩ | ⟨_, rfl, _⟩ <;> rfl; done) | (rcases h with ⟨_, rfl, _⟩ | ⟨_, rfl, _⟩ | ⟨_, rfl, _⟩ <;> rfl; done) | (obtain ⟨_, h⟩ := h; rcases h with ⟨_, rfl, _⟩ | ⟨_, rfl, _⟩ | ⟨_, rfl, _⟩ <;> rfl; done) | (obtain ⟨_, rfl, rfl, _⟩ := h; rfl; done) | (obtain ⟨_, _, rfl, rfl, _⟩ := h; rfl; done) | (obtain ⟨_, _, _, rfl, rfl, _⟩ := h; rfl; done) | (obtain ⟨_, _, _, _, rfl, rfl, _⟩ := h; rfl; done) | (obtain ⟨_, _, _, _, _, rfl, rfl, _⟩ := h; rfl; done) | (obtain ⟨_, _, _, _, _, _, rfl, rfl, _⟩ := h; rfl; done) | (obtain ⟨_, _, _, _, _, _, _, rfl, rfl, _⟩ := h; rfl; done) | (obtain ⟨_, _, _, _, _, _, _, _, rfl, rfl, _⟩ := h; rfl; done) | (obtain ⟨_, _, _, _, _, _, _, _, _, rfl, rfl, _⟩ := h; rfl; done) | (obtain ⟨_, _, _, _, _, _, _, _, _, _, rfl, rfl, _⟩ := h; rfl; done) | (obtain ⟨_, _, _, _, _, _, _, _, _, _, _, rfl, rfl, _⟩ := h; rfl; done)) B43 (KK a43) (fun cdv A outer s H E hr => der_are_pieces T G_is_listed G_is_piece G_first_wrong hr) (fun w es n k h => w_are_pieces  h)
  have G_need_pieces : Go P w K mg base 8 "need_pieces" (toSp K (needPSp C_Piece)) [] := fn_data F44 sc_need_pieces (fun w es n k h => by first | (obtain ⟨rfl, _⟩ := h; rfl; done) | (obtain ⟨_, rfl, _⟩ := h; rfl; done) | (obtain ⟨_, _, rfl, _⟩ := h; rfl; done) | (obtain ⟨_, _, _, rfl, _⟩ := h; rfl; done) | (obtain ⟨_, _, _, _, rfl, _⟩ := h; rfl; done) | (obtain ⟨_, _, _, _, _, rfl, _⟩ := h; rfl; done) | (obtain ⟨_, _, _, _, _, _, rfl, _⟩ := h; rfl; done) | (obtain ⟨_, _, _, _, _, _, _, rfl, _⟩ := h; rfl; done) | (obtain ⟨_, _, _, _, _, _, _, _, rfl, _⟩ := h; rfl; done) | (obtain ⟨_, _, _, _, _, _, _, _, _, rfl, _⟩ := h; rfl; done) | (obtain ⟨_, _, _, _, _, _, _, _, _, _, rfl, _⟩ := h; rfl; done) | (obtain ⟨_, _, _, _, _, _, _, _, _, _, _, rfl, _⟩ := h; rfl; done) | (obtain ⟨_, _, _, _, _, _, _, _, _, _, _, _, rfl, _⟩ := h; rfl; done) | (obtain ⟨_, _, _, _, _, _, _, _, _, _, _, _, _, rfl, _⟩ := h; rfl; done) | (obtain ⟨_, _, _, _, _, _, _, _, _, _, _, _, _, _, rfl, _⟩ := h; rfl; done) | (rcases h with ⟨_, rfl, _⟩ | ⟨_, rfl, _⟩ <;> rfl; done) | (rcases h with ⟨_, rfl, _⟩ | ⟨_, rfl, _⟩ | ⟨_, rfl, _⟩ <;> rfl; done) | (obtain ⟨_, h⟩ := h; rcases h with ⟨_, rfl, _⟩ | ⟨_, rfl, _⟩ | ⟨_, rfl, _⟩ <;> rfl; done) | (obtain ⟨_, rfl, rfl, _⟩ := h; rfl; done) | (obtain ⟨_, _, rfl, rfl, _⟩ := h; rfl; done) | (obtain ⟨_, _, _, rfl, rfl, _⟩ := h; rfl; done) | (obtain ⟨_, _, _, _, rfl, rfl, _⟩ := h; rfl; done) | (obtain ⟨_, _, _, _, _, rfl, rfl, _⟩ := h; rfl; done) | (obtain ⟨_, _, _, _, _, _, rfl, rfl, _⟩ := h; rfl; done) | (obtain ⟨_, _, _, _, _, _, _, rfl, rfl, _⟩ := h; rfl; done) | (obtain ⟨_, _, _, _, _, _, _, _, rfl, rfl, _⟩ := h; rfl; done) | (obtain ⟨_, _, _, _, _, _, _, _, _, rfl, rfl, _⟩ := h; rfl; done) | (obtain ⟨_, _, _, _, _, _, _, _, _, _, rfl, rfl, _⟩ := h; rfl; done) | (obtain ⟨_, _, _, _, _, _, _, _, _, _, _, rfl, rfl, _⟩ := h; rfl; done)) B44 (KK a44) (fun cdv A outer s H E hr => der_need_pieces T G_are_pieces hr) (fun w es n k h => w_need_pieces  h)
  have G_value_at : Go P w K mg base 3 "value_at" (toSp K (vaSp C_Piece)) [] := fn_data F45 sc_value_at (fun w es n k h => by first | (obtain ⟨rfl, _⟩ := h; rfl; done) | (obtain ⟨_, rfl, _⟩ := h; rfl; done) | (obtain ⟨_, _, rfl, _⟩ := h; rfl; done) | (obtain ⟨_, _, _, rfl, _⟩ := h; rfl; done) | (obtain ⟨_, _, _, _, rfl, _⟩ := h; rfl; done) | (obtain ⟨_, _, _, _, _, rfl, _⟩ := h; rfl; done) | (obtain ⟨_, _, _, _, _, _, rfl, _⟩ := h; rfl; done) | (obtain ⟨_, _, _, _, _, _, _, rfl, _⟩ := h; rfl; done) | (obtain ⟨_, _, _, _, _, _, _, _, rfl, _⟩ := h; rfl; done) | (obtain ⟨_, _, _, _, _, _, _, _, _, rfl, _⟩ := h; rfl; done) | (obtain ⟨_, _, _, _, _, _, _, _, _, _, rfl, _⟩ := h; rfl; done) | (obtain ⟨_, _, _, _, _, _, _, _, _, _, _, rfl, _⟩ := h; rfl; done) | (obtain ⟨_, _, _, _, _, _, _, _, _, _, _, _, rfl, _⟩ := h; rfl; done) | (obtain ⟨_, _, _, _, _, _, _, _, _, _, _, _, _, rfl, _⟩ := h; rfl; done) | (obtain ⟨_, _, _, _, _, _, _, _, _, _, _, _, _, _, rfl, _⟩ := h; rfl; done) | (rcases h with ⟨_, rfl, _⟩ | ⟨_, rfl, _⟩ <;> rfl; done) | (rcases h with ⟨_, rfl, _⟩ | ⟨_, rfl, _⟩ | ⟨_, rfl, _⟩ <;> rfl; done) | (obtain ⟨_, h⟩ := h; rcases h with ⟨_, rfl, _⟩ | ⟨_, rfl, _⟩ | ⟨_, rfl, _⟩ <;> rfl; done) | (obtain ⟨_, rfl, rfl, _⟩ := h; rfl; done) | (obtain ⟨_, _, rfl, rfl, _⟩ := h; rfl; done) | (obtain ⟨_, _, _, rfl, rfl, _⟩ := h; rfl; done) | (obtain ⟨_, _, _, _, rfl, rfl, _⟩ := h; rfl; done) | (obtain ⟨_, _, _, _, _, rfl, rfl, _⟩ := h; rfl; done) | (obtain ⟨_, _, _, _, _, _, rfl, rfl, _⟩ := h; rfl; done) | (obtain ⟨_, _, _, _, _, _, _, rfl, rfl, _⟩ := h; rfl; done) | (obtain ⟨_, _, _, _, _, _, _, _, rfl, rfl, _⟩ := h; rfl; done) | (obtain ⟨_, _, _, _, _, _, _, _, _, rfl, rfl, _⟩ := h; rfl; done) | (obtain ⟨_, _, _, _, _, _, _, _, _, _, rfl, rfl, _⟩ := h; rfl; done) | (obtain ⟨_, _, _, _, _, _, _, _, _, _, _, rfl, rfl, _⟩ := h; rfl; done)) B45 (KK a45) (fun cdv A outer s H E hr => der_value_at T G_number_at hr) (fun w es n k h => w_value_at T_Piece h)
  have G_point_at : Go P w K mg base 9 "point_at" (toSp K (ptAtSp C_Piece)) [] := fn_data F46 sc_point_at (fun w es n k h => by first | (obtain ⟨rfl, _⟩ := h; rfl; done) | (obtain ⟨_, rfl, _⟩ := h; rfl; done) | (obtain ⟨_, _, rfl, _⟩ := h; rfl; done) | (obtain ⟨_, _, _, rfl, _⟩ := h; rfl; done) | (obtain ⟨_, _, _, _, rfl, _⟩ := h; rfl; done) | (obtain ⟨_, _, _, _, _, rfl, _⟩ := h; rfl; done) | (obtain ⟨_, _, _, _, _, _, rfl, _⟩ := h; rfl; done) | (obtain ⟨_, _, _, _, _, _, _, rfl, _⟩ := h; rfl; done) | (obtain ⟨_, _, _, _, _, _, _, _, rfl, _⟩ := h; rfl; done) | (obtain ⟨_, _, _, _, _, _, _, _, _, rfl, _⟩ := h; rfl; done) | (obtain ⟨_, _, _, _, _, _, _, _, _, _, rfl, _⟩ := h; rfl; done) | (obtain ⟨_, _, _, _, _, _, _, _, _, _, _, rfl, _⟩ := h; rfl; done) | (obtain ⟨_, _, _, _, _, _, _, _, _, _, _, _, rfl, _⟩ := h; rfl; done) | (obtain ⟨_, _, _, _, _, _, _, _, _, _, _, _, _, rfl, _⟩ := h; rfl; done) | (obtain ⟨_, _, _, _, _, _, _, _, _, _, _, _, _, _, rfl, _⟩ := h; rfl; done) | (rcases h with ⟨_, rfl, _⟩ | ⟨_, rfl, _⟩ <;> rfl; done) | (rcases h with ⟨_, rfl, _⟩ | ⟨_, rfl, _⟩ | ⟨_, rfl, _⟩ <;> rfl; done) | (obtain ⟨_, h⟩ := h; rcases h with ⟨_, rfl, _⟩ | ⟨_, rfl, _⟩ | ⟨_, rfl, _⟩ <;> rfl; done) | (obtain ⟨_, rfl, rfl, _⟩ := h; rfl; done) | (obtain ⟨_, _, rfl, rfl, _⟩ := h; rfl; done) | (obtain ⟨_, _, _, rfl, rfl, _⟩ := h; rfl; done) | (obtain ⟨_, _, _, _, rfl, rfl, _⟩ := h; rfl; done) | (obtain ⟨_, _, _, _, _, rfl, rfl, _⟩ := h; rfl; done) | (obtain ⟨_, _, _, _, _, _, rfl, rfl, _⟩ := h; rfl; done) | (obtain ⟨_, _, _, _, _, _, _, rfl, rfl, _⟩ := h; rfl; done) | (obtain ⟨_, _, _, _, _, _, _, _, rfl, rfl, _⟩ := h; rfl; done) | (obtain ⟨_, _, _, _, _, _, _, _, _, rfl, rfl, _⟩ := h; rfl; done) | (obtain ⟨_, _, _, _, _, _, _, _, _, _, rfl, rfl, _⟩ := h; rfl; done) | (obtain ⟨_, _, _, _, _, _, _, _, _, _, _, rfl, rfl, _⟩ := h; rfl; done)) B46 (KK a46) (fun cdv A outer s H E hr => der_point_at T G_need_pieces G_is_within G_moment_at G_value_at hr) (fun w es n k h => w_point_at T_Piece h)
  have G__law_piece_right : Go P w K mg base 10 "_law_piece_right" (toSp K lpieceSp) [] := fn_data F47 sc__law_piece_right (fun w es n k h => by first | (obtain ⟨rfl, _⟩ := h; rfl; done) | (obtain ⟨_, rfl, _⟩ := h; rfl; done) | (obtain ⟨_, _, rfl, _⟩ := h; rfl; done) | (obtain ⟨_, _, _, rfl, _⟩ := h; rfl; done) | (obtain ⟨_, _, _, _, rfl, _⟩ := h; rfl; done) | (obtain ⟨_, _, _, _, _, rfl, _⟩ := h; rfl; done) | (obtain ⟨_, _, _, _, _, _, rfl, _⟩ := h; rfl; done) | (obtain ⟨_, _, _, _, _, _, _, rfl, _⟩ := h; rfl; done) | (obtain ⟨_, _, _, _, _, _, _, _, rfl, _⟩ := h; rfl; done) | (obtain ⟨_, _, _, _, _, _, _, _, _, rfl, _⟩ := h; rfl; done) | (obtain ⟨_, _, _, _, _, _, _, _, _, _, rfl, _⟩ := h; rfl; done) | (obtain ⟨_, _, _, _, _, _, _, _, _, _, _, rfl, _⟩ := h; rfl; done) | (obtain ⟨_, _, _, _, _, _, _, _, _, _, _, _, rfl, _⟩ := h; rfl; done) | (obtain ⟨_, _, _, _, _, _, _, _, _, _, _, _, _, rfl, _⟩ := h; rfl; done) | (obtain ⟨_, _, _, _, _, _, _, _, _, _, _, _, _, _, rfl, _⟩ := h; rfl; done) | (rcases h with ⟨_, rfl, _⟩ | ⟨_, rfl, _⟩ <;> rfl; done) | (rcases h with ⟨_, rfl, _⟩ | ⟨_, rfl, _⟩ | ⟨_, rfl, _⟩ <;> rfl; done) | (obtain ⟨_, h⟩ := h; rcases h with ⟨_, rfl, _⟩ | ⟨_, rfl, _⟩ | ⟨_, rfl, _⟩ <;> rfl; done) | (obtain ⟨_, rfl, rfl, _⟩ := h; rfl; done) | (obtain ⟨_, _, rfl, rfl, _⟩ := h; rfl; done) | (obtain ⟨_, _, _, rfl, rfl, _⟩ := h; rfl; done) | (obtain ⟨_, _, _, _, rfl, rfl, _⟩ := h; rfl; done) | (obtain ⟨_, _, _, _, _, rfl, rfl, _⟩ := h; rfl; done) | (obtain ⟨_, _, _, _, _, _, rfl, rfl, _⟩ := h; rfl; done) | (obtain ⟨_, _, _, _, _, _, _, rfl, rfl, _⟩ := h; rfl; done) | (obtain ⟨_, _, _, _, _, _, _, _, rfl, rfl, _⟩ := h; rfl; done) | (obtain ⟨_, _, _, _, _, _, _, _, _, rfl, rfl, _⟩ := h; rfl; done) | (obtain ⟨_, _, _, _, _, _, _, _, _, _, rfl, rfl, _⟩ := h; rfl; done) | (obtain ⟨_, _, _, _, _, _, _, _, _, _, _, rfl, rfl, _⟩ := h; rfl; done)) B47 (KK a47) (fun cdv A outer s H E hr => der__law_piece_right T G__law_way G__law_draw G_numbers_of G_pieces_of G_point_at hr) (fun w es n k h => w__law_piece_right T_Piece h)
  exact ⟨_, der_law T G__law_pen G__law_right G__law_piece_right hr, law_reads  hS hl hTT hQ⟩
end K26
open PySem PySem.W PyProof.Rows in
set_option maxRecDepth 100000 in
set_option maxHeartbeats 0 in
theorem PySem.Challenge.cw_askedcodes_k26_whole_runs_are_polynomial_holds : PySem.Challenge.rw_askedcodes_k26_whole_runs_are_polynomial.Holds := by
  w_on; o_law; k_head; (case hw => w_witness2)
  k_fill
  letI tb0 : DW.Tb := ⟨[], fun _ _ _ => ""⟩
  refine DW.walk_at (n := 63) (l := PySem.Challenge.rw_askedcodes_k26_whole_runs_are_polynomial) rfl (by decide) rfl (fun w h Y => PySem.W.km_in_of Y) ?F
  case F =>
    intro w mg fa h KX G hmg hown
    refine' K26.all_mk KX G hmg (hown "first_beyond" (by first | rfl | decide +kernel)) ?a0 ?l0 ?c0 ?k0 ?a1 ?l1 ?c1 ?k1 ?a2 ?l2 ?c2 ?k2 ?a3 ?l3 ?c3 ?k3 ?a4 ?l4 ?c4 ?k4 ?a5 ?l5 ?c5 ?k5 ?a6 ?l6 ?c6 ?k6 ?a7 ?l7 ?c7 ?k7 ?a8 ?l8 ?c8 ?k8 ?a9 ?l9 ?c9 ?k9 ?a10 ?l10 ?c10 ?k10 ?a11 ?l11 ?c11 ?k11 ?a12 ?l12 ?c12 ?k12 ?a13 ?l13 ?c13 ?k13 ?a14 ?l14 ?c14 ?k14 ?a15 ?l15 ?c15 ?k15 ?a16 ?l16 ?c16 ?k16 ?a17 ?l17 ?c17 ?k17 ?a18 ?l18 ?c18 ?k18 ?a19 ?l19 ?c19 ?k19 ?a20 ?l20 ?c20 ?k20 ?a21 ?l21 ?c21 ?k21 ?a22 ?l22 ?c22 ?k22 ?a23 ?l23 ?c23 ?k23 ?a24 ?l24 ?c24 ?k24 ?a25 ?l25 ?c25 ?k25 ?a26 ?l26 ?c26 ?k26 ?a27 ?l27 ?c27 ?k27 ?a28 ?l28 ?c28 ?k28 ?a29 ?l29 ?c29 ?k29 ?a30 ?l30 ?c30 ?k30 ?a31 ?l31 ?c31 ?k31 ?a32 ?l32 ?c32 ?k32 ?a33 ?l33 ?c33 ?k33 ?a34 ?l34 ?c34 ?k34 ?a35 ?l35 ?c35 ?k35 ?a36 ?l36 ?c36 ?k36 ?a37 ?l37 ?c37 ?k37 ?a38 ?l38 ?c38 ?k38 ?a39 ?l39 ?c39 ?k39 ?a40 ?l40 ?c40 ?k40 ?a41 ?l41 ?c41 ?k41 ?a42 ?l42 ?c42 ?k42 ?a43 ?l43 ?c43 ?k43 ?a44 ?l44 ?c44 ?k44 ?a45 ?l45 ?c45 ?k45 ?a46 ?l46 ?c46 ?k46 ?a47 ?l47 ?c47 ?k47 ?a48 ?l48 ?c48 ?k48 ?a49 ?l49 ?c49 ?k49 ?aR0 ?lR0 ?cR0R ?kR0 ?lcR0 ?v11R0 ?hPR0 ?hcR0 ?nPiece ?pgPiece ?hdPiece ?poPiece ?saPiece ?mkPiece ?kcPiece ?naPiece0 ?naPiece1 ?naPiece2 ?naPiece3 ?naPiece4 ?naPiece5 ?naPiece6 ?haPiece ?omPiece ?aPiece ?iPiece ?lPiece ?cEPiece ?dclPiece ?cdlPiece ?vs2Piece ?filPiece ?cclxPiece ?supPiece ?satPiece ?tyPPiece ?fiPPiece ?lPPiece ?cPPiece ?hn ?ht ?opq ?topS ?nsup ?b_abs ?b_all ?b_bool ?b_int ?b_isinstance ?b_len ?b_list ?b_max ?b_min ?b_range ?b_str ?b_sum ?b_tuple ?b_zip ?g_KINDS ?lt_KINDS ?g_LANES ?lt_LANES ?g_MOST_COUNT ?g_MOST_MOMENT ?g_MOST_NUMBERS ?g_MOST_ORDER ?g_MOST_PERIOD ?g_MOST_RUN ?g_MOST_VALUE ?hr9
    (case a0 => k_is)
    (case l0 => k_is)
    (case c0 => k_is)
    (case k0 => k_is)
    (case a1 => k_is)
    (case l1 => k_is)
    (case c1 => k_is)
    (case k1 => k_is)
    (case a2 => k_is)
    (case l2 => k_is)
    (case c2 => k_is)
    (case k2 => k_is)
    (case a3 => k_is)
    (case l3 => k_is)
    (case c3 => k_is)
    (case k3 => k_is)
    (case a4 => k_is)
    (case l4 => k_is)
    (case c4 => k_is)
    (case k4 => k_is)
    (case a5 => k_is)
    (case l5 => k_is)
    (case c5 => k_is)
    (case k5 => k_is)
    (case a6 => k_is)
    (case l6 => k_is)
    (case c6 => k_is)
    (case k6 => k_is)
    (case a7 => k_is)
    (case l7 => k_is)
    (case c7 => k_is)
    (case k7 => k_is)
    (case a8 => k_is)
    (case l8 => k_is)
    (case c8 => k_is)
    (case k8 => k_is)
    (case a9 => k_is)
    (case l9 => k_is)
    (case c9 => k_is)
    (case k9 => k_is)
    (case a10 => k_is)
    (case l10 => k_is)
    (case c10 => k_is)
    (case k10 => k_is)
    (case a11 => k_is)
    (case l11 => k_is)
    (case c11 => k_is)
    (case k11 => k_is)
    (case a12 => k_is)
    (case l12 => k_is)
    (case c12 => k_is)
    (case k12 => k_is)
    (case a13 => k_is)
    (case l13 => k_is)
    (case c13 => k_is)
    (case k13 => k_is)
    (case a14 => k_is)
    (case l14 => k_is)
    (case c14 => k_is)
    (case k14 => k_is)
    (case a15 => k_is)
    (case l15 => k_is)
    (case c15 => k_is)
    (case k15 => k_is)
    (case a16 => k_is)
    (case l16 => k_is)
    (case c16 => k_is)
    (case k16 => k_is)
    (case a17 => k_is)
    (case l17 => k_is)
    (case c17 => k_is)
    (case k17 => k_is)
    (case a18 => k_is)
    (case l18 => k_is)
    (case c18 => k_is)
    (case k18 => k_is)
    (case a19 => k_is)
    (case l19 => k_is)
    (case c19 => k_is)
    (case k19 => k_is)
    (case a20 => k_is)
    (case l20 => k_is)
    (case c20 => k_is)
    (case k20 => k_is)
    (case a21 => k_is)
    (case l21 => k_is)
    (case c21 => k_is)
    (case k21 => k_is)
    (case a22 => k_is)
    (case l22 => k_is)
    (case c22 => k_is)
    (case k22 => k_is)
    (case a23 => k_is)
    (case l23 => k_is)
    (case c23 => k_is)
    (case k23 => k_is)
    (case a24 => k_is)
    (case l24 => k_is)
    (case c24 => k_is)
    (case k24 => k_is)
    (case a25 => k_is)
    (case l25 => k_is)
    (case c25 => k_is)
    (case k25 => k_is)
    (case a26 => k_is)
    (case l26 => k_is)
    (case c26 => k_is)
    (case k26 => k_is)
    (case a27 => k_is)
    (case l27 => k_is)
    (case c27 => k_is)
    (case k27 => k_is)
    (case a28 => k_is)
    (case l28 => k_is)
    (case c28 => k_is)
    (case k28 => k_is)
    (case a29 => k_is)
    (case l29 => k_is)
    (case c29 => k_is)
    (case k29 => k_is)
    (case a30 => k_is)
    (case l30 => k_is)
    (case c30 => k_is)
    (case k30 => k_is)
    (case a31 => k_is)
    (case l31 => k_is)
    (case c31 => k_is)
    (case k31 => k_is)
    (case a32 => k_is)
    (case l32 => k_is)
    (case c32 => k_is)
    (case k32 => k_is)
    (case a33 => k_is)
    (case l33 => k_is)
    (case c33 => k_is)
    (case k33 => k_is)
    (case a34 => k_is)
    (case l34 => k_is)
    (case c34 => k_is)
    (case k34 => k_is)
    (case a35 => k_is)
    (case l35 => k_is)
    (case c35 => k_is)
    (case k35 => k_is)
    (case a36 => k_is)
    (case l36 => k_is)
    (case c36 => k_is)
    (case k36 => k_is)
    (case a37 => k_is)
    (case l37 => k_is)
    (case c37 => k_is)
    (case k37 => k_is)
    (case a38 => k_is)
    (case l38 => k_is)
    (case c38 => k_is)
    (case k38 => k_is)
    (case a39 => k_is)
    (case l39 => k_is)
    (case c39 => k_is)
    (case k39 => k_is)
    (case a40 => k_is)
    (case l40 => k_is)
    (case c40 => k_is)
    (case k40 => k_is)
    (case a41 => k_is)
    (case l41 => k_is)
    (case c41 => k_is)
    (case k41 => k_is)
    (case a42 => k_is)
    (case l42 => k_is)
    (case c42 => k_is)
    (case k42 => k_is)
    (case a43 => k_is)
    (case l43 => k_is)
    (case c43 => k_is)
    (case k43 => k_is)
    (case a44 => k_is)
    (case l44 => k_is)
    (case c44 => k_is)
    (case k44 => k_is)
    (case a45 => k_is)
    (case l45 => k_is)
    (case c45 => k_is)
    (case k45 => k_is)
    (case a46 => k_is)
    (case l46 => k_is)
    (case c46 => k_is)
    (case k46 => k_is)
    (case a47 => k_is)
    (case l47 => k_is)
    (case c47 => k_is)
    (case k47 => k_is)
    (case a48 => k_is)
    (case l48 => k_is)
    (case c48 => k_is)
    (case k48 => k_is)
    (case a49 => k_is)
    (case l49 => k_is)
    (case c49 => k_is)
    (case k49 => k_is)
    (case aR0 => k_is)
    (case lR0 => k_is)
    (case cR0R => k_is)
    (case kR0 => k_is)
    (case lcR0 => k_is)
    (case v11R0 => rfl)
    (case hPR0 => first | rfl | k_is | decide +kernel)
    (case hcR0 => first | kernel_rfl | rfl | decide +kernel)
    (case nPiece => k_is)
    (case pgPiece => k_is)
    (case hdPiece => k_is)
    (case poPiece => k_is)
    (case saPiece => k_is)
    (case mkPiece => k_is)
    (case kcPiece => k_is)
    (case naPiece0 => k_is)
    (case naPiece1 => k_is)
    (case naPiece2 => k_is)
    (case naPiece3 => k_is)
    (case naPiece4 => k_is)
    (case naPiece5 => k_is)
    (case naPiece6 => k_is)
    (case haPiece => k_is)
    (case omPiece => k_is)
    (case aPiece => k_is)
    (case iPiece => k_is)
    (case lPiece => k_is)
    (case cEPiece => k_is)
    (case dclPiece => k_is)
    (case cdlPiece => k_is)
    (case vs2Piece => rfl)
    (case filPiece => first | rfl | decide +kernel)
    (case cclxPiece => k_is)
    (case supPiece => k_is)
    (case satPiece => ks_is)
    (case tyPPiece => k_is)
    (case fiPPiece => k_is)
    (case lPPiece => k_is)
    (case cPPiece => k_is)
    (case hn => k_is)
    (case ht => k_is)
    (case opq => k_is)
    (case topS => first | rfl | decide +kernel)
    (case nsup => k_is)
    (case b_abs => k_is)
    (case b_all => k_is)
    (case b_bool => k_is)
    (case b_int => k_is)
    (case b_isinstance => k_is)
    (case b_len => k_is)
    (case b_list => k_is)
    (case b_max => k_is)
    (case b_min => k_is)
    (case b_range => k_is)
    (case b_str => k_is)
    (case b_sum => k_is)
    (case b_tuple => k_is)
    (case b_zip => k_is)
    (case g_KINDS => k_is)
    (case lt_KINDS => k_is)
    (case g_LANES => k_is)
    (case lt_LANES => k_is)
    (case g_MOST_COUNT => k_is)
    (case g_MOST_MOMENT => k_is)
    (case g_MOST_NUMBERS => k_is)
    (case g_MOST_ORDER => k_is)
    (case g_MOST_PERIOD => k_is)
    (case g_MOST_RUN => k_is)
    (case g_MOST_VALUE => k_is)
    (case hr9 => exact ⟨by decide, by decide, by decide⟩)
